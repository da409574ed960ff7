import PyProof.Rows.All
import Wide.All
import OpenK.AllK
import Wide.FinOn
import HandS.ForMost
import HandS.Lambda
import HandS.Walk
import HandS.Defaults
import HandS.IsInst
import HandS.Small
import HandS.SetKeys
import HandS.ExcOwn
import HandS.ExcInit
import PyProof.StrLawsTight
import KE.IntTextLaws
import HandS.Style
import HandS.HeadEnd
import KE.KStateDown
import Lean
import HandS.Base
import HandS.Call
import HandS.Ends
import HandS.More
import HandS.Words
import HandS.WordsExc
import HandS.Head0
import HandS.Head1
import HandS.Head2
import HandS.HeadHook1
import HandS.HeadHook2
import HandS.Wide
import PySem.Challenge.RW_mergeline_k67_paces_of_two_hundred_goods
set_option Elab.async false
set_option linter.all false
set_option maxRecDepth 100000
set_option maxHeartbeats 1000000
/-! TL1: data trees over the abstract heap; readings of expressions over trees. -/
namespace TL
open PySem PySem.Spec PyProof.Rows L2

/-- a key: a whole number or a text's codes -/
abbrev KY := Sum Int (List Nat)
def mkS (l : List Nat) : Str := ⟨l.toArray⟩
theorem tl_mkS (l : List Nat) : tl (mkS l) = l := rfl
def toK : KY → Key
  | .inl i => .inl i
  | .inr x => .inr (mkS x)
/-- data that stands still -/
inductive D where
  | non | bl (b : Bool) | int (i : Int) | str (x : List Nat)
  | lst (ds : List D) | tup (ds : List D)
  | dk (kvs : List (KY × D)) | dt (kvs : List (List KY × D))
  | ins (C : Addr) (fs : List (Str × D))
  | rng | scr (ns : List Int)
/-- what a slot holds: data that stands still, or a thing that may be changed (m: by us; else lent) -/
inductive T where
  | fr (d : D)
  | tup (ts : List T)
  | lst (m : Bool) (ts : List T)
  | dk (m : Bool) (kvs : List (KY × T))
  | dt (m : Bool) (kvs : List (List KY × T))
  | ins (m : Bool) (C : Addr) (fs : List (Str × T))
/-- what the ghost heap says of an address: an object for ever, a source of draws, the script -/
inductive GO where
  | ho (o : HO) | rng | scr (ns : List Int) | tab (q : Str)
/-- what moves by itself: a source of draws, a def's table of code objects -/
def mv : Option GO → Bool
  | some .rng => true
  | some (.tab _) => true
  | _ => false
structure Gh where
  obj : Addr → Option GO
  n : Nat
def LIM : Nat := 2 ^ 4000
def HoAt (H : Hp) (a : Addr) (o : HO) : Prop := H a = some o ∨ ∃ ob, H a = some (.frz ob o) ∧ ((∃ kvs, o = .dK kvs) ∨ ∃ kvs, o = .dT kvs)
def KList (K : PySem.W.Frag) (a : Addr) (xs : List V) : Prop :=
  ∃ (o : Obj) (its : Array Value) (n : Nat), K.lookup a = some o ∧ o.cls = .type "list" ∧ o.dict = none ∧ o.data = .seq its n ∧ its.size ≤ sizeLine ∧ Vals xs its.toList
structure Holds (G : Gh) (H : Hp) : Prop where
  ho : ∀ a o, G.obj a = some (.ho o) → HoAt H a o
  rng : ∀ a, G.obj a = some .rng → ∃ x y z : Int, H a = some (.lst [.int x, .int y, .int z]) ∧ 0 ≤ z ∧ z ≤ G.n
  scr : ∀ a ns, G.obj a = some (.scr ns) → Rd H a (.lst (ns.map .int))
  tab : ∀ a q, G.obj a = some (.tab q) → LamX.TabS H a q
structure Ext (c : Nat) (G : Gh) (H : Hp) (G' : Gh) (H' : Hp) : Prop where
  hd : Holds G' H'
  sub : ∀ a g, G.obj a = some g → G'.obj a = some g
  new : ∀ a, G.obj a = none → G'.obj a ≠ none → H a = none
  keep : ∀ a o, H a = some o → mv (G.obj a) = false → H' a = some o
  lo : G.n ≤ G'.n
  hi : G'.n ≤ G.n + c
mutual
inductive RepD (K : PySem.W.Frag) (G : Gh) : V → D → Prop
  | non : RepD K G .non .non
  | bl (b : Bool) : RepD K G (.bl b) (.bl b)
  | int (i : Int) : RepD K G (.int i) (.int i)
  | str {x : Str} {l : List Nat} : tl x = l → (∀ c ∈ l, c < 0x110000) → l.length ≤ sizeLine → RepD K G (.str x) (.str l)
  | lst {a : Addr} {vs : List V} {ds : List D} : G.obj a = some (.ho (.lst vs)) → RepDs K G vs ds → RepD K G (.ref a) (.lst ds)
  | tup {a : Addr} {vs : List V} {ds : List D} : G.obj a = some (.ho (.tup vs)) → RepDs K G vs ds → RepD K G (.ref a) (.tup ds)
  | dk {a : Addr} {vs : List V} {kvs : List (KY × D)} : G.obj a = some (.ho (.dK ((kvs.map (toK ·.1)).zip vs))) → RepDs K G vs (kvs.map (·.2)) → RepD K G (.ref a) (.dk kvs)
  | dt {a : Addr} {vs : List V} {kvs : List (List KY × D)} : G.obj a = some (.ho (.dT ((kvs.map (·.1.map toK)).zip vs))) → RepDs K G vs (kvs.map (·.2)) → RepD K G (.ref a) (.dt kvs)
  | ins {a C dx : Addr} {vs : List V} {fs : List (Str × D)} : G.obj a = some (.ho (.ins C dx ((fs.map (·.1)).zip vs))) → RepDs K G vs (fs.map (·.2)) → RepD K G (.ref a) (.ins C fs)
  | rng {a : Addr} : G.obj a = some .rng → RepD K G (.ref a) .rng
  | scr {a : Addr} {ns : List Int} : G.obj a = some (.scr ns) ∨ KList K a (ns.map .int) → RepD K G (.ref a) (.scr ns)
inductive RepDs (K : PySem.W.Frag) (G : Gh) : List V → List D → Prop
  | nil : RepDs K G [] []
  | cons {v : V} {vs : List V} {d : D} {ds : List D} : RepD K G v d → RepDs K G vs ds → RepDs K G (v :: vs) (d :: ds)
end
mutual
inductive RepT (K : PySem.W.Frag) (G : Gh) (H : Hp) : V → T → List (Bool × Addr) → Prop
  | fr {v : V} {d : D} : RepD K G v d → RepT K G H v (.fr d) []
  | tup {a : Addr} {vs : List V} {ts : List T} {f : List (Bool × Addr)} : G.obj a = some (.ho (.tup vs)) → RepTs K G H vs ts f → RepT K G H (.ref a) (.tup ts) f
  | lst {a : Addr} {vs : List V} {ts : List T} {f : List (Bool × Addr)} {m : Bool} : H a = some (.lst vs) → G.obj a = none → RepTs K G H vs ts f → RepT K G H (.ref a) (.lst m ts) ((m, a) :: f)
  | dk {a : Addr} {vs : List V} {kvs : List (KY × T)} {f : List (Bool × Addr)} {m : Bool} : H a = some (.dK ((kvs.map (toK ·.1)).zip vs)) → G.obj a = none → RepTs K G H vs (kvs.map (·.2)) f → RepT K G H (.ref a) (.dk m kvs) ((m, a) :: f)
  | dt {a : Addr} {vs : List V} {kvs : List (List KY × T)} {f : List (Bool × Addr)} {m : Bool} : H a = some (.dT ((kvs.map (·.1.map toK)).zip vs)) → G.obj a = none → RepTs K G H vs (kvs.map (·.2)) f → RepT K G H (.ref a) (.dt m kvs) ((m, a) :: f)
  | ins {a C dx : Addr} {vs : List V} {fs : List (Str × T)} {f : List (Bool × Addr)} {m : Bool} : H a = some (.ins C dx ((fs.map (·.1)).zip vs)) → G.obj a = none → H dx = some (.own a) → G.obj dx = none → RepTs K G H vs (fs.map (·.2)) f → RepT K G H (.ref a) (.ins m C fs) ((m, a) :: (m, dx) :: f)
inductive RepTs (K : PySem.W.Frag) (G : Gh) (H : Hp) : List V → List T → List (Bool × Addr) → Prop
  | nil : RepTs K G H [] [] []
  | cons {v : V} {vs : List V} {t : T} {ts : List T} {f g : List (Bool × Addr)} : RepT K G H v t f → RepTs K G H vs ts g → RepTs K G H (v :: vs) (t :: ts) (f ++ g)
end
inductive RepS (K : PySem.W.Frag) (G : Gh) (H : Hp) : L2.St → List (Option T) → List (Bool × Addr) → Prop
  | nil : RepS K G H [] [] []
  | no {o : Option V} {σ : L2.St} {ρ : List (Option T)} {f : List (Bool × Addr)} : RepS K G H σ ρ f → RepS K G H (o :: σ) (none :: ρ) f
  | so {v : V} {t : T} {σ : L2.St} {ρ : List (Option T)} {f g : List (Bool × Addr)} : RepT K G H v t f → RepS K G H σ ρ g → RepS K G H (some v :: σ) (some t :: ρ) (f ++ g)

section
variable {K : PySem.W.Frag} {G G' G'' : Gh} {H H' H'' : Hp} {c c' : Nat}
theorem HoAt.there {a : Addr} {o : HO} (h : HoAt H a o) : H a ≠ none := by
  rcases h with h | ⟨_, h, _⟩ <;> rw [h] <;> exact fun z => nomatch z
theorem Holds.there (h : Holds G H) {a : Addr} {g : GO} (e : G.obj a = some g) : H a ≠ none := by
  cases g with
  | ho o => exact (h.ho a o e).there
  | rng => obtain ⟨x, y, z, q, _⟩ := h.rng a e; rw [q]; exact fun z => nomatch z
  | scr ns => rcases h.scr a ns e with q | ⟨_, q⟩ <;> rw [q] <;> exact fun z => nomatch z
  | tab q => obtain ⟨ps, z, _⟩ := h.tab a q e; rw [z]; exact fun z => nomatch z
theorem Holds.free (h : Holds G H) {a : Addr} (e : H a = none) : G.obj a = none := by
  cases q : G.obj a with
  | none => rfl
  | some g => exact absurd e (h.there q)
theorem Ext.refl (h : Holds G H) : Ext 0 G H G H := ⟨h, fun _ _ e => e, fun _ e n => absurd e n, fun _ _ e _ => e, Nat.le_refl _, by omega⟩
theorem Ext.notrng (x : Ext c G H G' H') {a : Addr} {o : HO} (e : H a = some o) (n : mv (G.obj a) = false) : mv (G'.obj a) = false := by
  cases q : G.obj a with
  | none =>
    cases z : G'.obj a with
    | none => rfl
    | some g => have := x.new a q (by rw [z]; exact fun z => nomatch z); rw [e] at this; cases this
  | some g => rw [x.sub a g q, ← q]; exact n
theorem Ext.trans (x : Ext c G H G' H') (y : Ext c' G' H' G'' H'') : Ext (c + c') G H G'' H'' where
  hd := y.hd
  sub := fun a g e => y.sub a g (x.sub a g e)
  new := fun a e n => by
    cases q : G'.obj a with
    | some g => exact x.new a e (by rw [q]; exact fun z => nomatch z)
    | none =>
      have h1 := y.new a q n
      cases r : H a with
      | none => rfl
      | some o => have := x.keep a o r (by rw [e]; rfl); rw [h1] at this; cases this
  keep := fun a o e n => y.keep a o (x.keep a o e n) (x.notrng e n)
  lo := Nat.le_trans x.lo y.lo
  hi := by have := x.hi; have := y.hi; omega
theorem Ext.more (x : Ext c G H G' H') (h : c ≤ c') : Ext c' G H G' H' := ⟨x.hd, x.sub, x.new, x.keep, x.lo, by have := x.hi; omega⟩
/-- an object that no ghost speaks of stands still -/
theorem Ext.stay (x : Ext c G H G' H') {a : Addr} {o : HO} (e : H a = some o) (n : G.obj a = none) : H' a = some o ∧ G'.obj a = none := by
  refine ⟨x.keep a o e (by rw [n]; rfl), ?_⟩
  cases q : G'.obj a with
  | none => rfl
  | some g => have := x.new a n (by rw [q]; exact fun z => nomatch z); rw [e] at this; cases this
theorem Ext.there (x : Ext c G H G' H') {a : Addr} (n : H a ≠ none) : H' a ≠ none := by
  cases r : H a with
  | none => exact absurd r n
  | some o =>
    cases q : G.obj a with
    | none => rw [x.keep a o r (by rw [q]; rfl)]; exact fun z => nomatch z
    | some g => exact x.hd.there (x.sub a g q)
theorem Ext.back_none (x : Ext c G H G' H') {a : Addr} (n : H' a = none) : H a = none := by
  cases r : H a with
  | none => rfl
  | some o => exact absurd n (x.there (by rw [r]; exact fun z => nomatch z))
/-! ### keeping what is known -/
mutual
theorem RepD.mono (s : ∀ a g, G.obj a = some g → G'.obj a = some g) : ∀ {v : V} {d : D}, RepD K G v d → RepD K G' v d
  | _, _, .non => .non
  | _, _, .bl b => .bl b
  | _, _, .int i => .int i
  | _, _, .str e h z => .str e h z
  | _, _, .lst e r => .lst (s _ _ e) (RepDs.mono s r)
  | _, _, .tup e r => .tup (s _ _ e) (RepDs.mono s r)
  | _, _, .dk e r => .dk (s _ _ e) (RepDs.mono s r)
  | _, _, .dt e r => .dt (s _ _ e) (RepDs.mono s r)
  | _, _, .ins e r => .ins (s _ _ e) (RepDs.mono s r)
  | _, _, .rng e => .rng (s _ _ e)
  | _, _, .scr e => .scr (e.imp (s _ _) id)
theorem RepDs.mono (s : ∀ a g, G.obj a = some g → G'.obj a = some g) : ∀ {vs : List V} {ds : List D}, RepDs K G vs ds → RepDs K G' vs ds
  | _, _, .nil => .nil
  | _, _, .cons r t => .cons (RepD.mono s r) (RepDs.mono s t)
end
mutual
theorem RepT.mono (s : ∀ a g, G.obj a = some g → G'.obj a = some g) : ∀ {v : V} {t : T} {f : List (Bool × Addr)}, RepT K G H v t f → (∀ q ∈ f, ∀ o, H q.2 = some o → G.obj q.2 = none → H' q.2 = some o ∧ G'.obj q.2 = none) → RepT K G' H' v t f
  | _, _, _, .fr r, _ => .fr (r.mono s)
  | _, _, _, .tup e r, k => .tup (s _ _ e) (RepTs.mono s r k)
  | _, _, _, .lst e n r, k => .lst (k _ (List.mem_cons_self ..) _ e n).1 (k _ (List.mem_cons_self ..) _ e n).2 (RepTs.mono s r fun q hq => k q (List.mem_cons_of_mem _ hq))
  | _, _, _, .dk e n r, k => .dk (k _ (List.mem_cons_self ..) _ e n).1 (k _ (List.mem_cons_self ..) _ e n).2 (RepTs.mono s r fun q hq => k q (List.mem_cons_of_mem _ hq))
  | _, _, _, .dt e n r, k => .dt (k _ (List.mem_cons_self ..) _ e n).1 (k _ (List.mem_cons_self ..) _ e n).2 (RepTs.mono s r fun q hq => k q (List.mem_cons_of_mem _ hq))
  | _, _, _, .ins e n x nd r, k => .ins (k _ (List.mem_cons_self ..) _ e n).1 (k _ (List.mem_cons_self ..) _ e n).2 (k _ (List.mem_cons_of_mem _ (List.mem_cons_self ..)) _ x nd).1 (k _ (List.mem_cons_of_mem _ (List.mem_cons_self ..)) _ x nd).2 (RepTs.mono s r fun q hq => k q (List.mem_cons_of_mem _ (List.mem_cons_of_mem _ hq)))
theorem RepTs.mono (s : ∀ a g, G.obj a = some g → G'.obj a = some g) : ∀ {vs : List V} {ts : List T} {f : List (Bool × Addr)}, RepTs K G H vs ts f → (∀ q ∈ f, ∀ o, H q.2 = some o → G.obj q.2 = none → H' q.2 = some o ∧ G'.obj q.2 = none) → RepTs K G' H' vs ts f
  | _, _, _, .nil, _ => .nil
  | _, _, _, .cons r t, k => .cons (RepT.mono s r fun q hq => k q (List.mem_append_left _ hq)) (RepTs.mono s t fun q hq => k q (List.mem_append_right _ hq))
end
theorem RepT.ext {v : V} {t : T} {f : List (Bool × Addr)} (r : RepT K G H v t f) (x : Ext c G H G' H') : RepT K G' H' v t f := r.mono x.sub fun _ _ _ e n => x.stay e n
theorem RepTs.ext {vs : List V} {ts : List T} {f : List (Bool × Addr)} (r : RepTs K G H vs ts f) (x : Ext c G H G' H') : RepTs K G' H' vs ts f := r.mono x.sub fun _ _ _ e n => x.stay e n
theorem RepS.ext {σ : L2.St} {ρ : List (Option T)} {f : List (Bool × Addr)} (r : RepS K G H σ ρ f) (x : Ext c G H G' H') : RepS K G' H' σ ρ f := by
  induction r with
  | nil => exact .nil
  | no _ ih => exact .no ih
  | so r _ ih => exact .so (r.ext x) ih
theorem RepD.ext {v : V} {d : D} (r : RepD K G v d) (x : Ext c G H G' H') : RepD K G' v d := r.mono x.sub
theorem RepDs.ext {v : List V} {d : List D} (r : RepDs K G v d) (x : Ext c G H G' H') : RepDs K G' v d := r.mono x.sub
theorem RepDs.length {vs : List V} {ds : List D} (r : RepDs K G vs ds) : vs.length = ds.length := by
  induction ds generalizing vs with
  | nil => cases r; rfl
  | cons d ds ih => cases r with | cons _ t => simp [ih t]
theorem RepTs.length {vs : List V} {ts : List T} {f : List (Bool × Addr)} (r : RepTs K G H vs ts f) : vs.length = ts.length := by
  induction ts generalizing vs f with
  | nil => cases r; rfl
  | cons d ds ih => cases r with | cons _ t => simp [ih t]
theorem RepDs.get {vs : List V} {ds : List D} (r : RepDs K G vs ds) {i : Nat} {d : D} (h : ds[i]? = some d) : ∃ v, vs[i]? = some v ∧ RepD K G v d := by
  induction ds generalizing vs i with
  | nil => simp at h
  | cons e ds ih => cases r with
    | cons q t => cases i with
      | zero => simp at h; subst h; exact ⟨_, rfl, q⟩
      | succ i => simpa using ih t (by simpa using h)
theorem RepTs.get {vs : List V} {ts : List T} {f : List (Bool × Addr)} (r : RepTs K G H vs ts f) {i : Nat} {t : T} (h : ts[i]? = some t) : ∃ v g, vs[i]? = some v ∧ RepT K G H v t g ∧ ∀ q ∈ g, q ∈ f := by
  induction ts generalizing vs f i with
  | nil => simp at h
  | cons e ds ih => cases r with
    | cons q r => cases i with
      | zero => simp at h; subst h; exact ⟨_, _, rfl, q, fun z hz => List.mem_append_left _ hz⟩
      | succ i =>
        obtain ⟨v, g, e1, e2, e3⟩ := ih r (by simpa using h)
        exact ⟨v, g, by simpa using e1, e2, fun z hz => List.mem_append_right _ (e3 z hz)⟩
theorem RepDs.ts {vs : List V} {ds : List D} (r : RepDs K G vs ds) : RepTs K G H vs (ds.map .fr) [] := by
  induction ds generalizing vs with
  | nil => cases r; exact .nil
  | cons d ds ih => cases r with | cons q t => exact .cons (f := []) (.fr q) (ih t)
theorem RepTs.ds {vs : List V} {ds : List D} {f : List (Bool × Addr)} (r : RepTs K G H vs (ds.map .fr) f) : RepDs K G vs ds ∧ f = [] := by
  induction ds generalizing vs f with
  | nil => cases r; exact ⟨.nil, rfl⟩
  | cons d ds ih => cases r with
    | cons q t => cases q with
      | fr q => obtain ⟨h1, h2⟩ := ih t; subst h2; exact ⟨.cons q h1, rfl⟩
def look : List (Option T) → Nat → Option T
  | [], _ => none
  | o :: _, 0 => o
  | _ :: ρ, i + 1 => look ρ i
theorem RepS.look {σ : L2.St} {ρ : List (Option T)} {f : List (Bool × Addr)} (r : RepS K G H σ ρ f) {i : Nat} {t : T} (h : look ρ i = some t) : ∃ v g, σ[i]? = some (some v) ∧ RepT K G H v t g ∧ ∀ q ∈ g, q ∈ f := by
  induction r generalizing i with
  | nil => cases h
  | no _ ih =>
    cases i with
    | zero => cases h
    | succ i => obtain ⟨v, g, e1, e2, e3⟩ := ih h; exact ⟨v, g, by simpa using e1, e2, e3⟩
  | so q _ ih =>
    cases i with
    | zero => cases h; exact ⟨_, _, rfl, q, fun z hz => List.mem_append_left _ hz⟩
    | succ i => obtain ⟨v, g, e1, e2, e3⟩ := ih h; exact ⟨v, g, by simpa using e1, e2, fun z hz => List.mem_append_right _ (e3 z hz)⟩
theorem RepS.length {σ : L2.St} {ρ : List (Option T)} {f : List (Bool × Addr)} (r : RepS K G H σ ρ f) : σ.length = ρ.length := by
  induction r with
  | nil => rfl
  | no _ ih => simp [ih]
  | so _ _ ih => simp [ih]
/-- a new object is laid and stands still from now on -/
def Gh.put (G : Gh) (p : Addr) (g : GO) : Gh := ⟨fun b => if b = p then some g else G.obj b, G.n⟩
theorem Gh.put_same {p : Addr} {g : GO} : (G.put p g).obj p = some g := by simp [Gh.put]
def Plain (o : HO) : Prop := (∀ ps, o ≠ .tbl ps) ∧ ∀ f, o ≠ .ext f
theorem plain_lst {vs : List V} : Plain (.lst vs) := ⟨fun _ z => HO.noConfusion z, fun _ z => HO.noConfusion z⟩
theorem plain_dK {kvs : List (Key × V)} : Plain (.dK kvs) := ⟨fun _ z => HO.noConfusion z, fun _ z => HO.noConfusion z⟩
theorem plain_dT {kvs : List (List Key × V)} : Plain (.dT kvs) := ⟨fun _ z => HO.noConfusion z, fun _ z => HO.noConfusion z⟩
theorem plain_ins {C dx : Addr} {fs : List (Str × V)} : Plain (.ins C dx fs) := ⟨fun _ z => HO.noConfusion z, fun _ z => HO.noConfusion z⟩
/-- a plain object of which no ghost speaks is changed, or laid -/
theorem Holds.upd (h : Holds G H) {a : Addr} (g : G.obj a = none) (pl : ∀ o, H a = some o → Plain o) (o : HO) : Holds G (L2.upd H a o) := by
  have ne : ∀ {b : Addr} {u : GO}, G.obj b = some u → b ≠ a := fun e z => by subst z; rw [g] at e; cases e
  refine ⟨fun b u e => ?_, fun b e => ?_, fun b ns e => ?_, fun b q e => ?_⟩
  · have := h.ho b u e
    unfold HoAt at *
    rwa [upd_ne (ne e)]
  · rw [upd_ne (ne e)]; exact h.rng b e
  · have := h.scr b ns e
    unfold Rd at *
    rwa [upd_ne (ne e)]
  · obtain ⟨ps, h1, h2, h3⟩ := h.tab b q e
    refine ⟨ps, by rw [upd_ne (ne e)]; exact h1, h2, fun pos cv hc => ?_⟩
    obtain ⟨c, e1, e2⟩ := h3 pos cv hc
    refine ⟨c, e1, ?_⟩
    have nc : c ≠ a := fun z => by subst z; exact (pl _ e2).2 _ rfl
    rw [upd_ne nc]; exact e2
/-- .. stands still from now on -/
theorem Holds.frz (h : Holds G H) {a : Addr} {o : HO} (g : G.obj a = none) (e : H a = some o) : Holds (G.put a (.ho o)) H := by
  refine ⟨fun b u z => ?_, fun b z => ?_, fun b ns z => ?_, fun b q z => ?_⟩
  · by_cases q : b = a
    · subst q; rw [Gh.put_same] at z; cases z; exact .inl e
    · simp only [Gh.put, if_neg q] at z; exact h.ho b u z
  · by_cases q : b = a
    · subst q; rw [Gh.put_same] at z; cases z
    · simp only [Gh.put, if_neg q] at z; exact h.rng b z
  · by_cases q : b = a
    · subst q; rw [Gh.put_same] at z; cases z
    · simp only [Gh.put, if_neg q] at z; exact h.scr b ns z
  · by_cases q : b = a
    · subst q; rw [Gh.put_same] at z; cases z
    · simp only [Gh.put, if_neg q] at z; exact h.tab b _ z
theorem Ext.alloc (h : Holds G H) {p : Addr} (n : H p = none) (o : HO) : Ext 0 G H (G.put p (.ho o)) (upd H p o) where
  hd := (h.upd (h.free n) (fun o e => by rw [n] at e; cases e) o).frz (h.free n) upd_same
  sub := fun a g e => by
    have q : a ≠ p := fun z => by subst z; exact absurd n (h.there e)
    simp only [Gh.put, if_neg q]; exact e
  new := fun a e z => by
    by_cases q : a = p
    · subst q; exact n
    · simp only [Gh.put, if_neg q] at z; exact absurd e z
  keep := fun a u e _ => by rw [upd_ne (ne_of_none e n)]; exact e
  lo := Nat.le_refl _
  hi := Nat.le_refl _
/-- .. and may be changed: no ghost speaks of it -/
theorem Ext.own (h : Holds G H) {p : Addr} (n : H p = none) (o : HO) : Ext 0 G H G (upd H p o) where
  hd := h.upd (h.free n) (fun o e => by rw [n] at e; cases e) o
  sub := fun _ _ e => e
  new := fun _ e z => absurd e z
  keep := fun a u e _ => by rw [upd_ne (ne_of_none e n)]; exact e
  lo := Nat.le_refl _
  hi := Nat.le_refl _
end
end TL
set_option Elab.async false
set_option linter.all false
set_option maxRecDepth 100000
set_option maxHeartbeats 1000000
/-! TL2: readings of expressions over trees. -/
namespace TL
open PySem PySem.Spec PyProof.Rows L2
abbrev Rho := List (Option T)
abbrev TW := Rho → (T → Prop) → Prop
abbrev TWs := Rho → (List T → Prop) → Prop
abbrev TB := Rho → (Bool → Prop) → Prop
abbrev Fps := List (Bool × Addr)
/-- what is no longer than it may be -/
structure LenOk (K : PySem.W.Frag) (H : Hp) : Prop where
  l : ∀ a xs, SqL K H a xs → xs.length ≤ sizeLine
  t : ∀ a xs, SqT K H a xs → xs.length ≤ sizeLine
  k : ∀ a kvs, H a = some (.dK kvs) → kvs.length ≤ sizeLine
  kt : ∀ a kvs, H a = some (.dT kvs) → kvs.length ≤ sizeLine
  dk : ∀ a kvs, H a = some (.dK kvs) → (kvs.map (·.1)).Nodup
  dt : ∀ a kvs, H a = some (.dT kvs) → (kvs.map (·.1)).Nodup
theorem keys_paired {κ α β : Type} {R : κ × α → κ × β → Prop} (h : ∀ p q, R p q → p.1 = q.1) : ∀ {xs : List (κ × α)} {ys : List (κ × β)}, Paired R xs ys → xs.map (·.1) = ys.map (·.1)
  | _, _, .nil => rfl
  | _, _, .cons r t => by simp [h _ _ r, keys_paired h t]
theorem lenOk {X : Cx} {pins : List (Addr × Obj)} {σ : L2.St} {H : Hp} {s : Shared} (I : Inv X pins σ H s) : LenOk X.K H :=
  ⟨fun a xs h => (I.list h).choose_spec.2.2, fun a xs h => (I.tuple h).choose_spec.2.2, fun a kvs h => (I.hok a _ h).1, fun a kvs h => (I.hok a _ h).1, fun a kvs h => by
    obtain ⟨_, _, vs, kv, o, es, ep, _, _, _, _, _, nd⟩ := I.hok a _ h
    rw [KV.keys kv]; exact nd, fun a kvs h => by
    obtain ⟨_, _, xs, p, o, es, ep, _, _, _, _, nd⟩ := I.hok a _ h
    rw [keys_paired (fun p q h => h.1) p]; exact nd⟩
section
variable {X : Cx} {e : Expr} {es : List Expr}
theorem PE.imp {t t' : TE} (h : PE X e t) (i : ∀ σ H Q, t' σ H Q → t σ H fun v H1 => LenOk X.K H1 → Q v H1) : PE X e t' := ⟨fun pins s σ H Q I q =>
  thn (h.run pins s σ H _ I (i σ H Q q)) fun u s' ⟨v, H1, I1, r, q1⟩ => ⟨v, H1, I1, r, q1 (lenOk I1)⟩⟩
theorem PT.imp {t t' : TT} (h : PT X e t) (i : ∀ σ H Q, t' σ H Q → t σ H fun v H1 => LenOk X.K H1 → Q v H1) : PT X e t' := ⟨fun pins s σ H Q I q =>
  thn (h.run pins s σ H _ I (i σ H Q q)) fun b s' ⟨H1, I1, q1⟩ => ⟨H1, I1, q1 (lenOk I1)⟩⟩
theorem PW.imp {t t' : TT} (h : PW X e t) (i : ∀ σ H Q, t' σ H Q → t σ H fun v H1 => LenOk X.K H1 → Q v H1) : PW X e t' := ⟨fun wh pins s σ H Q I q =>
  thn (h.run wh pins s σ H _ I (i σ H Q q)) fun b s' ⟨H1, I1, q1⟩ => ⟨H1, I1, q1 (lenOk I1)⟩⟩
theorem PA.imp {t t' : TA} (h : PA X es t) (i : ∀ σ H Q, t' σ H Q → t σ H fun v H1 => LenOk X.K H1 → Q v H1) : PA X es t' := ⟨fun pos pins s σ H Q I q =>
  thn (h.run pos pins s σ H _ I (i σ H Q q)) fun us s' ⟨vs, H1, I1, r, q1⟩ => ⟨vs, H1, I1, r, q1 (lenOk I1)⟩⟩
theorem PI.imp {tg : Expr} {t t' : TI} (h : PI X tg e t) (i : ∀ σ H R, t' σ H R → t σ H fun J H1 => LenOk X.K H1 → R J H1) : PI X tg e t' := ⟨fun pins s σ H R I q =>
  thn (h.run pins s σ H _ I (i σ H R q)) fun v s1 h1 => thn h1 fun itv s2 ⟨it, fp, tn, J, H', e1, I1, T, t0, f, r⟩ => ⟨it, fp, tn, J, H', e1, I1, T, t0, f, r (lenOk I1)⟩⟩
end
/-! ### the lifts -/
def liftE (K : PySem.W.Frag) (c : Nat) (w : TW) : TE := fun σ H Q => ∃ G ρ fp P, Holds G H ∧ RepS K G H σ ρ fp ∧ G.n + c ≤ LIM ∧ w ρ P ∧
  ∀ v t f G' H', Ext c G H G' H' → RepT K G' H' v t f → (∀ q ∈ f, q ∈ fp) → LenOk K H' → P t → Q v H'
def liftT (K : PySem.W.Frag) (c : Nat) (w : TB) : TT := fun σ H Q => ∃ G ρ fp P, Holds G H ∧ RepS K G H σ ρ fp ∧ G.n + c ≤ LIM ∧ w ρ P ∧
  ∀ b G' H', Ext c G H G' H' → LenOk K H' → P b → Q b H'
def liftA (K : PySem.W.Frag) (c : Nat) (w : TWs) : TA := fun σ H Q => ∃ G ρ fp P, Holds G H ∧ RepS K G H σ ρ fp ∧ G.n + c ≤ LIM ∧ w ρ P ∧
  ∀ vs ts f G' H', Ext c G H G' H' → RepTs K G' H' vs ts f → (∀ q ∈ f, q ∈ fp) → LenOk K H' → P ts → Q vs H'
/-- what is walked: the items; the flag: nothing of it is ours to change -/
abbrev TWI := Rho → (Bool → List T → Prop) → Prop
structure Later (Kp : Addr → Prop) (G : Gh) (H : Hp) (G' : Gh) (H' : Hp) : Prop where
  hd : Holds G' H'
  sub : ∀ a g, G.obj a = some g → G'.obj a = some g
  keep : ∀ a o, Kp a → H a = some o → G.obj a = none → H' a = some o ∧ G'.obj a = none
theorem Ext.later {c : Nat} {G G' : Gh} {H H' : Hp} (x : Ext c G H G' H') (Kp : Addr → Prop) : Later Kp G H G' H' := ⟨x.hd, x.sub, fun _ _ _ e n => x.stay e n⟩
theorem RepT.later {K : PySem.W.Frag} {Kp : Addr → Prop} {G G' : Gh} {H H' : Hp} {v : V} {t : T} {f : Fps} (r : RepT K G H v t f) (l : Later Kp G H G' H') (h : ∀ q ∈ f, Kp q.2) : RepT K G' H' v t f := r.mono l.sub fun q hq o e n => l.keep _ o (h q hq) e n
theorem RepTs.later {K : PySem.W.Frag} {Kp : Addr → Prop} {G G' : Gh} {H H' : Hp} {v : List V} {t : List T} {f : Fps} (r : RepTs K G H v t f) (l : Later Kp G H G' H') (h : ∀ q ∈ f, Kp q.2) : RepTs K G' H' v t f := r.mono l.sub fun q hq o e n => l.keep _ o (h q hq) e n
/-- N: how many items at most -/
def liftI (K : PySem.W.Frag) (c N : Nat) (w : TWI) : TI := fun σ H R => ∃ G ρ fp P, Holds G H ∧ RepS K G H σ ρ fp ∧ G.n + c ≤ LIM ∧ w ρ P ∧
  ∀ (J : It) (fl : Bool) (its : List T) (f : Fps) (Gd : Hp → Prop) (Y : Nat → Hp → V → Hp → Prop) (G' : Gh) (H' : Hp), Ext c G H G' H' → (∀ q ∈ f, q ∈ fp) → (fl = true → ∀ q ∈ f, q.1 = false) → its.length ≤ N → Walk J its.length Gd Y →
    (∀ (Kp : Addr → Prop) (G2 : Gh) (H2 : Hp), (∀ q ∈ f, Kp q.2) → Later Kp G' H' G2 H2 → Gd H2 ∧ ∀ i x H3, Y i H2 x H3 → ∃ t g G3, its[i]? = some t ∧ Ext 0 G2 H2 G3 H3 ∧ RepT K G3 H3 x t g ∧ ∀ q ∈ g, q ∈ f) → P fl its → R J H'
def WE (X : Cx) (c : Nat) (e : Expr) (w : TW) : Prop := PE X e (liftE X.K c w)
def WT (X : Cx) (c : Nat) (e : Expr) (w : TB) : Prop := PT X e (liftT X.K c w)
def WW (X : Cx) (c : Nat) (e : Expr) (w : TB) : Prop := PW X e (liftT X.K c w)
def WA (X : Cx) (c : Nat) (es : List Expr) (w : TWs) : Prop := PA X es (liftA X.K c w)
def WI (X : Cx) (c N : Nat) (tg e : Expr) (w : TWI) : Prop := PI X tg e (liftI X.K c N w)
section
variable {X : Cx} {e a b d : Expr} {es : List Expr} {pos : Pos} {c ca cb cc : Nat} {wa wb wc : TW} {wB wB' : TB}
/-! ### names, constants -/
def wVar (i : Nat) : TW := fun ρ P => match look ρ i with
  | some t => P t
  | none => False
def wC (d : D) : TW := fun _ P => P (.fr d)
theorem we_var {i : Nat} (h : PE X e (tVar i)) : WE X 0 e (wVar i) := PE.imp h fun σ H Q ⟨G, ρ, fp, P, hd, rs, hn, hw, k⟩ => by
  unfold wVar at hw
  cases q : look ρ i with
  | none => rw [q] at hw; exact hw.elim
  | some t =>
    rw [q] at hw
    obtain ⟨v, g, e1, r, hg⟩ := rs.look q
    exact ⟨v, e1, fun lk => k v t g G H (Ext.refl hd) r hg lk hw⟩
theorem we_c {v : V} {d : D} (h : PE X e (tC v)) (r : ∀ G, RepD X.K G v d) : WE X 0 e (wC d) := PE.imp h fun σ H Q ⟨G, ρ, fp, P, hd, rs, hn, hw, k⟩ =>
  fun lk => k v (.fr d) [] G H (Ext.refl hd) (.fr (r G)) (fun _ z => nomatch z) lk hw
theorem repStr {K : PySem.W.Frag} {G : Gh} (x : Str) (h : decide ((tl x).length ≤ 1000 ∧ ∀ c ∈ tl x, c < 0x110000) = true) : RepD K G (.str x) (.str (tl x)) :=
  have q := of_decide_eq_true h
  .str rfl q.2 (Nat.le_trans q.1 (by rw [sizeLine_eq]; decide))
theorem we_int {i : Int} {j} : WE X 0 (.Constant (.int i) j pos) (wC (.int i)) := we_c pe_int fun _ => .int i
theorem we_bl {i : Bool} {j} : WE X 0 (.Constant (.bool i) j pos) (wC (.bl i)) := we_c pe_bl fun _ => .bl i
theorem we_non {j} : WE X 0 (.Constant .none j pos) (wC .non) := we_c pe_non fun _ => .non
theorem we_str {x : Str} {j} (h : decide ((tl x).length ≤ 1000 ∧ ∀ c ∈ tl x, c < 0x110000) = true := by decide +kernel) : WE X 0 (.Constant (.str x) j pos) (wC (.str (tl x))) := we_c pe_str fun _ => repStr x h
/-- a module's constant -/
theorem we_glob {x : Str} {v : V} {u : Value} {d : D} (hg : Gl X x) (hm : X.mg x = some u) (r : RelV v u) (rd : ∀ G, RepD X.K G v d) (hdb : (x == ("__debug__" : Str)) = false := by decide) : WE X 0 (.Name x pos) (wC d) := we_c (pe_glob hg hm r hdb) rd
/-! ### two parts -/
def Leaf2 (K : PySem.W.Frag) (r : R2) (o : T → T → (T → Prop) → Prop) : Prop := ∀ (G : Gh) (H : Hp) (x y : V) (tx ty : T) (fx fy : Fps) (P : T → Prop) (Q : VK), Holds G H → LenOk K H → RepT K G H x tx fx → RepT K G H y ty fy → o tx ty P →
  (∀ v t f G' H', Ext 0 G H G' H' → RepT K G' H' v t f → (∀ q ∈ f, q ∈ fx ∨ q ∈ fy) → P t → Q v H') → r x y H Q
def w2 (o : T → T → (T → Prop) → Prop) (wa wb : TW) : TW := fun ρ P => wa ρ fun x => wb ρ fun y => o x y P
theorem core2 {K : PySem.W.Frag} {r : R2} {o : T → T → (T → Prop) → Prop} (lf : Leaf2 K r o) {σ : L2.St} {H : Hp} {Q : VK} {G : Gh} {ρ : Rho} {fp : Fps} {P : T → Prop} (hd : Holds G H) (rs : RepS K G H σ ρ fp) (hn : G.n + (ca + cb) ≤ LIM) (hw : w2 o wa wb ρ P)
    (k : ∀ v t f G' H', Ext (ca + cb) G H G' H' → RepT K G' H' v t f → (∀ q ∈ f, q ∈ fp) → P t → Q v H') : tOp r (liftE K ca wa) (liftE K cb wb) σ H Q := by
  refine ⟨G, ρ, fp, _, hd, rs, by omega, hw, fun v t f G1 H1 x1 r1 f1 lk1 hw1 => ?_⟩
  have := x1.hi
  refine ⟨G1, ρ, fp, _, x1.hd, rs.ext x1, by omega, hw1, fun v2 t2 g G2 H2 x2 r2 f2 lk2 hw2 => ?_⟩
  refine lf G2 H2 v v2 t t2 f g P _ x2.hd lk2 (r1.ext x2) r2 hw2 fun z tz fz G3 H3 x3 r3 f3 p3 => ?_
  have x := (x1.trans x2).trans x3
  exact k z tz fz G3 H3 x r3 (fun q hq => (f3 q hq).elim (f1 q) (f2 q)) p3
theorem imp2 {K : PySem.W.Frag} {r : R2} {o : T → T → (T → Prop) → Prop} (lf : Leaf2 K r o) {σ : L2.St} {H : Hp} {Q : VK} (h : liftE K (ca + cb) (w2 o wa wb) σ H Q) : tOp r (liftE K ca wa) (liftE K cb wb) σ H fun v H1 => LenOk K H1 → Q v H1 :=
  let ⟨G, ρ, fp, P, hd, rs, hn, hw, k⟩ := h
  core2 lf hd rs hn hw fun v t f G' H' x r f1 p lk => k v t f G' H' x r f1 lk p
end
end TL
set_option Elab.async false
set_option linter.all false
set_option maxRecDepth 100000
set_option maxHeartbeats 1000000
/-! TL3: operations on trees, one rule a construct. -/
namespace TL
open PySem PySem.Spec PyProof.Rows L2
theorem uT {A B : Prop} (h : if true = true then A else B) : A := by rwa [if_pos rfl] at h
theorem uF {A B : Prop} (h : if false = true then A else B) : B := by rwa [if_neg Bool.false_ne_true] at h
section
variable {K : PySem.W.Frag} {G G' : Gh} {H H' : Hp} {v : V} {f : Fps} {c : Nat}
/-! ### what stands at a value -/
theorem RepT.d {d : D} (r : RepT K G H v (.fr d) f) : RepD K G v d ∧ f = [] := by cases r with | fr r => exact ⟨r, rfl⟩
theorem RepD.non' (r : RepD K G v .non) : v = .non := by cases r; rfl
theorem RepD.bl' {b : Bool} (r : RepD K G v (.bl b)) : v = .bl b := by cases r; rfl
theorem RepD.int' {i : Int} (r : RepD K G v (.int i)) : v = .int i := by cases r; rfl
theorem RepD.str' {l : List Nat} (r : RepD K G v (.str l)) : ∃ x, v = .str x ∧ tl x = l ∧ (∀ c ∈ l, c < 0x110000) ∧ l.length ≤ sizeLine := by cases r with | str a b z => exact ⟨_, rfl, a, b, z⟩
theorem HoAt.lst {a : Addr} {xs : List V} (h : HoAt H a (.lst xs)) : H a = some (.lst xs) := by
  rcases h with h | ⟨_, _, ⟨_, h⟩ | ⟨_, h⟩⟩
  · exact h
  · cases h
  · cases h
theorem HoAt.tup {a : Addr} {xs : List V} (h : HoAt H a (.tup xs)) : H a = some (.tup xs) := by
  rcases h with h | ⟨_, _, ⟨_, h⟩ | ⟨_, h⟩⟩
  · exact h
  · cases h
  · cases h
theorem HoAt.ins {a C dx : Addr} {xs : List (Str × V)} (h : HoAt H a (.ins C dx xs)) : H a = some (.ins C dx xs) := by
  rcases h with h | ⟨_, _, ⟨_, h⟩ | ⟨_, h⟩⟩
  · exact h
  · cases h
  · cases h
theorem RepD.lst' {ds : List D} (hd : Holds G H) (r : RepD K G v (.lst ds)) : ∃ a vs, v = .ref a ∧ H a = some (.lst vs) ∧ G.obj a = some (.ho (.lst vs)) ∧ RepDs K G vs ds := by
  cases r with | lst e r => exact ⟨_, _, rfl, (hd.ho _ _ e).lst, e, r⟩
theorem RepD.tup' {ds : List D} (hd : Holds G H) (r : RepD K G v (.tup ds)) : ∃ a vs, v = .ref a ∧ H a = some (.tup vs) ∧ G.obj a = some (.ho (.tup vs)) ∧ RepDs K G vs ds := by
  cases r with | tup e r => exact ⟨_, _, rfl, (hd.ho _ _ e).tup, e, r⟩
theorem RepD.scr' {ns : List Int} (hd : Holds G H) (r : RepD K G v (.scr ns)) : ∃ a, v = .ref a ∧ SqL K H a (ns.map .int) := by
  cases r with | scr e => exact ⟨_, rfl, e.elim (fun q => .inl (hd.scr _ _ q)) fun q => .inr q⟩
/-- a list or a tuple that may be read, with its items -/
def elems : T → Option (Bool × List T)
  | .fr (.lst ds) => some (true, ds.map .fr)
  | .fr (.tup ds) => some (false, ds.map .fr)
  | .fr (.scr ns) => some (true, ns.map fun i => .fr (.int i))
  | .tup ts => some (false, ts)
  | .lst _ ts => some (true, ts)
  | _ => none
theorem RepTs.sub_nil {vs : List V} {ts : List T} {g : Fps} (h : ∀ q ∈ g, q ∈ ([] : Fps)) : g = [] := by
  cases g with
  | nil => rfl
  | cons q _ => exact nomatch h q (List.mem_cons_self ..)
theorem ints_ts {ns : List Int} : RepTs K G H (ns.map .int) (ns.map fun i => .fr (.int i)) [] := by
  induction ns with
  | nil => exact .nil
  | cons n ns ih => exact .cons (f := []) (.fr (.int n)) ih
theorem elems_ok {t : T} {l : Bool} {ts : List T} (hd : Holds G H) (r : RepT K G H v t f) (e : elems t = some (l, ts)) : ∃ a vs g, v = .ref a ∧ (if l = true then SqL K H a vs else SqT K H a vs) ∧ RepTs K G H vs ts g ∧ ∀ q ∈ g, q ∈ f := by
  cases t with
  | fr d =>
    obtain ⟨r9, rfl⟩ := r.d
    cases d with
    | lst ds =>
      cases e
      obtain ⟨a, vs, rfl, h1, h2, h3⟩ := r9.lst' hd
      exact ⟨a, vs, [], rfl, SqL.of h1, h3.ts, fun _ z => nomatch z⟩
    | tup ds =>
      cases e
      obtain ⟨a, vs, rfl, h1, h2, h3⟩ := r9.tup' hd
      exact ⟨a, vs, [], rfl, SqT.of h1, h3.ts, fun _ z => nomatch z⟩
    | scr ns =>
      cases e
      obtain ⟨a, rfl, h1⟩ := r9.scr' hd
      exact ⟨a, _, [], rfl, h1, ints_ts, fun _ z => nomatch z⟩
    | _ => cases e
  | tup us =>
    cases e
    cases r with | tup h r => exact ⟨_, _, f, rfl, SqT.of (hd.ho _ _ h).tup, r, fun _ z => z⟩
  | lst m us =>
    cases e
    cases r with | lst h n r => exact ⟨_, _, _, rfl, SqL.of h, r, fun _ z => List.mem_cons_of_mem _ z⟩
  | _ => cases e
/-- .. in a reading: whatever it is -/
theorem elems_len {t : T} {l : Bool} {ts : List T} (lk : LenOk K H) (hd : Holds G H) (r : RepT K G H v t f) (e : elems t = some (l, ts)) : ts.length ≤ sizeLine := by
  have z := elems_ok (K := K) hd r e
  obtain ⟨a, vs, g, e1, h, r2, h4⟩ := z
  rw [← r2.length]
  cases l with
  | true => exact lk.l a vs h
  | false => exact lk.t a vs h
end
section
variable {X : Cx} {e a b d : Expr} {es : List Expr} {pos : Pos} {c ca cb cc : Nat} {wa wb wc : TW} {wB wB' : TB} {ws : TWs}
theorem we_op {op : Operator} {r : R2} {o : T → T → (T → Prop) → Prop} (ho : OpR X (binaryOp op) r) (lf : Leaf2 X.K r o) (ha : WE X ca a wa) (hb : WE X cb b wb) : WE X (ca + cb) (.BinOp a op b pos) (w2 o wa wb) := PE.imp (pe_op ho ha hb) fun _ _ _ h => imp2 lf h
theorem we_cmp {op : CmpOp} {r : R2} {o : T → T → (T → Prop) → Prop} (ho : OpR X (compareOp op) r) (lf : Leaf2 X.K r o) (ha : WE X ca a wa) (hb : WE X cb b wb) (hm : behindInMarks op b = false) : WE X (ca + cb) (.Compare a [op] [b] pos) (w2 o wa wb) := PE.imp (pe_cmpR ho ha hb hm) fun _ _ _ h => imp2 lf h
/-- a value that is True or False, as a test -/
def asB (P : Bool → Prop) : T → Prop
  | .fr (.bl b) => P b
  | _ => False
def tst (w : TW) : TB := fun ρ P => w ρ (asB P)
theorem impT {K : PySem.W.Frag} {w : TW} {σ : L2.St} {H : Hp} {Q : Bool → Hp → Prop} (h : liftT K c (tst w) σ H Q) : liftE K c w σ H fun x H1 => ∃ k, x = .bl k ∧ (LenOk K H1 → Q k H1) := by
  obtain ⟨G, ρ, fp, P, hd, rs, hn, hw, k⟩ := h
  refine ⟨G, ρ, fp, _, hd, rs, hn, hw, fun v t f G1 H1 x1 r1 f1 lk hw1 => ?_⟩
  cases t with
  | fr d =>
    cases d with
    | bl b =>
      obtain ⟨r, _⟩ := r1.d
      rw [r.bl']
      exact ⟨b, rfl, fun lk => k b G1 H1 x1 lk hw1⟩
    | _ => exact hw1.elim
  | _ => exact hw1.elim
theorem wt_val {w : TW} (h : WE X c e w) (he : ∀ whole, isTrue e X.env whole = (do let v ← whole; standAt e.pos; holding [v] (truthy v)) := by intro _; rfl) : WT X c e (tst w) := PT.imp (pt_val h he) fun _ _ _ h => impT h
theorem isBl {K : PySem.W.Frag} {G : Gh} {H : Hp} {v : V} {t : T} {f : Fps} {P : Bool → Prop} (r : RepT K G H v t f) (h : asB P t) : ∃ b, v = .bl b ∧ t = .fr (.bl b) ∧ P b := by
  cases t with
  | fr d =>
    cases d with
    | bl b => obtain ⟨r, _⟩ := r.d; exact ⟨b, r.bl', rfl, h⟩
    | _ => exact h.elim
  | _ => exact h.elim
theorem wt_cmp {op : CmpOp} {r : R2} {o : T → T → (T → Prop) → Prop} (ho : OpR X (compareOp op) r) (lf : Leaf2 X.K r o) (ha : WE X ca a wa) (hb : WE X cb b wb) (hm : behindInMarks op b = false) : WT X (ca + cb) (.Compare a [op] [b] pos) (tst (w2 o wa wb)) :=
  PT.imp (pt_cmpR ho ha hb hm) fun σ H Q ⟨G, ρ, fp, P, hd, rs, hn, hw, k⟩ => core2 lf hd rs hn hw fun v t f G1 H1 x1 r1 f1 p => by
    obtain ⟨b, e, _, p⟩ := isBl r1 p
    exact ⟨b, e, fun lk => k b G1 H1 x1 lk p⟩
/-- three parts in a chain -/
def wChain (o o' : T → T → (T → Prop) → Prop) (wa wb wc : TW) : TW := fun ρ P => wa ρ fun x => wb ρ fun y => o x y (asB fun k => if k = true then wc ρ fun u => o' y u P else P (.fr (.bl false)))
theorem coreC {K : PySem.W.Frag} {r r' : R2} {o o' : T → T → (T → Prop) → Prop} (lf : Leaf2 K r o) (lf' : Leaf2 K r' o') {σ : L2.St} {H : Hp} {Q : VK} {G : Gh} {ρ : Rho} {fp : Fps} {P : T → Prop} (hd : Holds G H) (rs : RepS K G H σ ρ fp) (hn : G.n + (ca + cb + cc) ≤ LIM) (hw : wChain o o' wa wb wc ρ P)
    (k : ∀ v t f G' H', Ext (ca + cb + cc) G H G' H' → RepT K G' H' v t f → (∀ q ∈ f, q ∈ fp) → P t → Q v H') : tChain r r' (liftE K ca wa) (liftE K cb wb) (liftE K cc wc) σ H Q := by
  refine ⟨G, ρ, fp, _, hd, rs, by omega, hw, fun v t f G1 H1 x1 r1 f1 lk1 hw1 => ?_⟩
  have := x1.hi
  refine ⟨G1, ρ, fp, _, x1.hd, rs.ext x1, by omega, hw1, fun v2 t2 g G2 H2 x2 r2 f2 lk2 hw2 => ?_⟩
  have := x2.hi
  refine lf G2 H2 v v2 t t2 f g _ _ x2.hd lk2 (r1.ext x2) r2 hw2 fun z tz fz G3 H3 x3 r3 f3 p3 => ?_
  obtain ⟨b, e, _, p⟩ := isBl (P := fun k => if k = true then wc ρ fun u => o' t2 u P else P (.fr (.bl false))) r3 p3
  have := x3.hi
  refine ⟨b, e, ?_⟩
  have x := (x1.trans x2).trans x3
  cases b with
  | true =>
    replace p := uT p; refine iteT ?_
    refine ⟨G3, ρ, fp, _, x3.hd, rs.ext x, by omega, p, fun v4 t4 g4 G4 H4 x4 r4 f4 lk4 hw4 => ?_⟩
    refine lf' G4 H4 v2 v4 t2 t4 g g4 P _ x4.hd lk4 ((r2.ext x3).ext x4) r4 hw4 fun z5 t5 f5 G5 H5 x5 r5 h5 p5 => ?_
    exact k z5 t5 f5 G5 H5 (((x.trans x4).trans x5).more (by omega)) r5 (fun q hq => (h5 q hq).elim (f2 q) (f4 q)) p5
  | false =>
    replace p := uF p; refine iteF ?_
    exact k (.bl false) _ [] G3 H3 (x.more (by omega)) (.fr (.bl false)) (fun _ z => nomatch z) p
theorem we_chain {op op' : CmpOp} {r r' : R2} {o o' : T → T → (T → Prop) → Prop} (ho : OpR X (compareOp op) r) (lf : Leaf2 X.K r o) (ho' : OpR X (compareOp op') r') (lf' : Leaf2 X.K r' o') (ha : WE X ca a wa) (hb : WE X cb b wb) (hc : WE X cc d wc) (hm : lastMarks [op, op'] [b, d] = false := by with_unfolding_all rfl) : WE X (ca + cb + cc) (.Compare a [op, op'] [b, d] pos) (wChain o o' wa wb wc) :=
  PE.imp (pe_chain ho ho' ha hb hc hm) fun σ H Q ⟨G, ρ, fp, P, hd, rs, hn, hw, k⟩ => coreC lf lf' hd rs hn hw fun v t f G' H' x r f1 p lk => k v t f G' H' x r f1 lk p
theorem wt_chain {op op' : CmpOp} {r r' : R2} {o o' : T → T → (T → Prop) → Prop} (ho : OpR X (compareOp op) r) (lf : Leaf2 X.K r o) (ho' : OpR X (compareOp op') r') (lf' : Leaf2 X.K r' o') (ha : WE X ca a wa) (hb : WE X cb b wb) (hc : WE X cc d wc) (hm : lastMarks [op, op'] [b, d] = false := by with_unfolding_all rfl) : WT X (ca + cb + cc) (.Compare a [op, op'] [b, d] pos) (tst (wChain o o' wa wb wc)) :=
  PT.imp (pt_chain ho ho' ha hb hc hm) fun σ H Q ⟨G, ρ, fp, P, hd, rs, hn, hw, k⟩ => coreC lf lf' hd rs hn hw fun v t f G1 H1 x1 r1 f1 p => by
    obtain ⟨b, e, _, p⟩ := isBl r1 p
    exact ⟨b, e, fun lk => k b G1 H1 x1 lk p⟩
/-! ### and, or, not, if -/
def bAnd (u w : TB) : TB := fun ρ P => u ρ fun k => if k = true then w ρ P else P false
def bOr (u w : TB) : TB := fun ρ P => u ρ fun k => if k = true then P true else w ρ P
def bNot (u : TB) : TB := fun ρ P => u ρ fun k => P (!k)
theorem ww_one {op} (h : WT X c a wB) (hop : op = .And ∨ op = .Or) : WW X c (.BoolOp op [a] pos) wB := by
  rcases hop with rfl | rfl
  · exact pw_and1 h
  · exact pw_or1 h
theorem ww_and {rest : List Expr} (ha : WT X ca a wB) (hb : WW X cb (.BoolOp .And (b :: rest) pos) wB') : WW X (ca + cb) (.BoolOp .And (a :: b :: rest) pos) (bAnd wB wB') := PW.imp (pw_and ha hb) fun σ H Q h => by
  obtain ⟨G, ρ, fp, P, hd, rs, hn, hw, k⟩ := h
  refine ⟨G, ρ, fp, _, hd, rs, by omega, hw, fun b G1 H1 x1 lk hw1 => ?_⟩
  have := x1.hi
  cases b with
  | false => replace hw1 := uF hw1; refine iteF ?_; exact fun lk => k _ G1 H1 (x1.more (by omega)) lk hw1
  | true =>
    replace hw1 := uT hw1; refine iteT ?_
    exact ⟨G1, ρ, fp, P, x1.hd, rs.ext x1, by omega, hw1, fun b2 G2 H2 x2 lk2 p2 _ => k b2 G2 H2 (x1.trans x2) lk2 p2⟩
theorem ww_or {rest : List Expr} (ha : WT X ca a wB) (hb : WW X cb (.BoolOp .Or (b :: rest) pos) wB') : WW X (ca + cb) (.BoolOp .Or (a :: b :: rest) pos) (bOr wB wB') := PW.imp (pw_or ha hb) fun σ H Q h => by
  obtain ⟨G, ρ, fp, P, hd, rs, hn, hw, k⟩ := h
  refine ⟨G, ρ, fp, _, hd, rs, by omega, hw, fun b G1 H1 x1 lk hw1 => ?_⟩
  have := x1.hi
  cases b with
  | true => replace hw1 := uT hw1; refine iteT ?_; exact fun lk => k _ G1 H1 (x1.more (by omega)) lk hw1
  | false =>
    replace hw1 := uF hw1; refine iteF ?_
    exact ⟨G1, ρ, fp, P, x1.hd, rs.ext x1, by omega, hw1, fun b2 G2 H2 x2 lk2 p2 _ => k b2 G2 H2 (x1.trans x2) lk2 p2⟩
theorem wt_ww (h : WW X c a wB) : WT X c a wB := PW.pt h
theorem wt_not (h : WT X c a wB) : WT X c (.UnaryOp .Not a pos) (bNot wB) := PT.imp (pt_not h) fun σ H Q ⟨G, ρ, fp, P, hd, rs, hn, hw, k⟩ => ⟨G, ρ, fp, _, hd, rs, hn, hw, fun b G1 H1 x1 lk p lk => k _ G1 H1 x1 lk p⟩
/-- .. as values -/
def vAnd (u w : TW) : TW := fun ρ P => tst u ρ fun k => if k = true then w ρ P else P (.fr (.bl false))
def vOr (u w : TW) : TW := fun ρ P => tst u ρ fun k => if k = true then P (.fr (.bl true)) else w ρ P
def vNot (u : TW) : TW := fun ρ P => tst u ρ fun k => P (.fr (.bl (!k)))
theorem we_one {op} {w : TW} (h : WE X c a w) : WE X c (.BoolOp op [a] pos) w := pe_one h
theorem we_and {rest : List Expr} (ha : WE X ca a wa) (hb : WE X cb (.BoolOp .And (b :: rest) pos) wb) : WE X (ca + cb) (.BoolOp .And (a :: b :: rest) pos) (vAnd wa wb) := PE.imp (pe_and ha hb) fun σ H Q ⟨G, ρ, fp, P, hd, rs, hn, hw, k⟩ => by
  refine ⟨G, ρ, fp, _, hd, rs, by omega, hw, fun v t f G1 H1 x1 r1 f1 lk hw1 => ?_⟩
  have := x1.hi
  obtain ⟨b, e, _, p⟩ := isBl r1 hw1
  refine ⟨b, e, ?_⟩
  cases b with
  | true =>
    replace p := uT p; refine iteT ?_
    exact ⟨G1, ρ, fp, P, x1.hd, rs.ext x1, by omega, p, fun v t f G2 H2 x2 r2 f2 lk2 p2 _ => k v t f G2 H2 (x1.trans x2) r2 f2 lk2 p2⟩
  | false => replace p := uF p; refine iteF ?_; exact fun lk => k _ _ [] G1 H1 (x1.more (by omega)) (.fr (.bl false)) (fun _ z => nomatch z) lk p
theorem we_or {rest : List Expr} (ha : WE X ca a wa) (hb : WE X cb (.BoolOp .Or (b :: rest) pos) wb) : WE X (ca + cb) (.BoolOp .Or (a :: b :: rest) pos) (vOr wa wb) := PE.imp (pe_or ha hb) fun σ H Q ⟨G, ρ, fp, P, hd, rs, hn, hw, k⟩ => by
  refine ⟨G, ρ, fp, _, hd, rs, by omega, hw, fun v t f G1 H1 x1 r1 f1 lk hw1 => ?_⟩
  have := x1.hi
  obtain ⟨b, e, _, p⟩ := isBl r1 hw1
  refine ⟨b, e, ?_⟩
  cases b with
  | false =>
    replace p := uF p; refine iteF ?_
    exact ⟨G1, ρ, fp, P, x1.hd, rs.ext x1, by omega, p, fun v t f G2 H2 x2 r2 f2 lk2 p2 _ => k v t f G2 H2 (x1.trans x2) r2 f2 lk2 p2⟩
  | true => replace p := uT p; refine iteT ?_; exact fun lk => k _ _ [] G1 H1 (x1.more (by omega)) (.fr (.bl true)) (fun _ z => nomatch z) lk p
theorem we_not (ha : WE X c a wa) : WE X c (.UnaryOp .Not a pos) (vNot wa) := PE.imp (pe_not ha) fun σ H Q ⟨G, ρ, fp, P, hd, rs, hn, hw, k⟩ => by
  refine ⟨G, ρ, fp, _, hd, rs, hn, hw, fun v t f G1 H1 x1 r1 f1 lk hw1 => ?_⟩
  obtain ⟨b, e, _, p⟩ := isBl r1 hw1
  exact ⟨b, e, fun lk => k _ _ [] G1 H1 x1 (.fr (.bl _)) (fun _ z => nomatch z) lk p⟩
def wIfE (u : TB) (wa wb : TW) : TW := fun ρ P => u ρ fun k => if k = true then wa ρ P else wb ρ P
theorem we_ifE {q : Expr} (hq : WT X cc q wB) (ha : WE X ca a wa) (hb : WE X cb b wb) : WE X (cc + (ca + cb)) (.IfExp q a b pos) (wIfE wB wa wb) := PE.imp (pe_ifExp hq ha hb) fun σ H Q ⟨G, ρ, fp, P, hd, rs, hn, hw, k⟩ => by
  refine ⟨G, ρ, fp, _, hd, rs, by omega, hw, fun b G1 H1 x1 lk hw1 => ?_⟩
  have := x1.hi
  cases b with
  | true =>
    replace hw1 := uT hw1; refine iteT ?_
    exact ⟨G1, ρ, fp, P, x1.hd, rs.ext x1, by omega, hw1, fun v t f G2 H2 x2 r2 f2 lk2 p2 _ => k v t f G2 H2 ((x1.trans x2).more (by omega)) r2 f2 lk2 p2⟩
  | false =>
    replace hw1 := uF hw1; refine iteF ?_
    exact ⟨G1, ρ, fp, P, x1.hd, rs.ext x1, by omega, hw1, fun v t f G2 H2 x2 r2 f2 lk2 p2 _ => k v t f G2 H2 ((x1.trans x2).more (by omega)) r2 f2 lk2 p2⟩
/-! ### argument lists, calls -/
def wNil : TWs := fun _ P => P []
def wCons (w : TW) (ws : TWs) : TWs := fun ρ P => w ρ fun t => ws ρ fun ts => P (t :: ts)
theorem wa_nil : WA X 0 [] wNil := PA.imp pa_nil fun σ H Q ⟨G, ρ, fp, P, hd, rs, hn, hw, k⟩ lk => k [] [] [] G H (Ext.refl hd) .nil (fun _ z => nomatch z) lk hw
theorem wa_cons (ha : WE X ca e wa) (hr : WA X cb es ws) (hs : starEach (e :: es) X.env = (false, eval e X.env) :: starEach es X.env := by rfl) : WA X (ca + cb) (e :: es) (wCons wa ws) := PA.imp (pa_cons ha hr hs) fun σ H Q ⟨G, ρ, fp, P, hd, rs, hn, hw, k⟩ => by
  refine ⟨G, ρ, fp, _, hd, rs, by omega, hw, fun v t f G1 H1 x1 r1 f1 lk hw1 => ?_⟩
  have := x1.hi
  exact ⟨G1, ρ, fp, _, x1.hd, rs.ext x1, by omega, hw1, fun vs ts g G2 H2 x2 r2 f2 lk2 p2 lk => k (v :: vs) (t :: ts) (f ++ g) G2 H2 (x1.trans x2) (.cons (r1.ext x2) r2) (fun q hq => (List.mem_append.mp hq).elim (f1 q) (f2 q)) lk p2⟩
def LeafN (K : PySem.W.Frag) (r : List V → Hp → VK → Prop) (o : List T → (T → Prop) → Prop) : Prop := ∀ (G : Gh) (H : Hp) (vs : List V) (ts : List T) (f : Fps) (P : T → Prop) (Q : VK), Holds G H → LenOk K H → RepTs K G H vs ts f → o ts P →
  (∀ v t g G' H', Ext 0 G H G' H' → RepT K G' H' v t g → (∀ q ∈ g, q ∈ f) → P t → Q v H') → r vs H Q
def wN (o : List T → (T → Prop) → Prop) (w : TWs) : TW := fun ρ P => w ρ fun ts => o ts P
theorem impN {K : PySem.W.Frag} {r : List V → Hp → VK → Prop} {o : List T → (T → Prop) → Prop} (lf : LeafN K r o) {σ : L2.St} {H : Hp} {Q : VK} (h : liftE K c (wN o ws) σ H Q) : tCB r (liftA K c ws) σ H fun v H1 => LenOk K H1 → Q v H1 := by
  obtain ⟨G, ρ, fp, P, hd, rs, hn, hw, k⟩ := h
  refine ⟨G, ρ, fp, _, hd, rs, hn, hw, fun vs ts f G1 H1 x1 r1 f1 lk1 hw1 => ?_⟩
  exact lf G1 H1 vs ts f P _ x1.hd lk1 r1 hw1 fun v t g G2 H2 x2 r2 g2 p2 lk => k v t g G2 H2 (x1.trans x2) r2 (fun q hq => f1 q (g2 q hq)) lk p2
theorem we_callB {x : Str} {p : Pos} {id : String} {r : List V → Hp → VK → Prop} {o : List T → (T → Prop) → Prop} (hc : CallR X (.builtin id) r) (lf : LeafN X.K r o) (hg : Gl X x) (hm : X.mg x = none) (hv : bootBuiltins x = some (.builtin id)) (ha : WA X c (e :: es) ws) (hn : x ≠ "__name__" := by decide) (hdb : (x == ("__debug__" : Str)) = false := by decide)
    (he : starEach (e :: es) X.env = (false, eval e X.env) :: starEach es X.env := by rfl) (hpl : (backTo pos (starEach es X.env)).any (·.1) = false := by rfl) : WE X c (.Call (.Name x p) (e :: es) [] pos) (wN o ws) :=
  PE.imp (pe_callB hc hg hm hv ha hn hdb he hpl) fun _ _ _ h => impN lf h
theorem we_callTy {x : Str} {p : Pos} {T0 : String} {r : List V → Hp → VK → Prop} {o : List T → (T → Prop) → Prop} (hc : CallR X (.type T0) r) (lf : LeafN X.K r o) (hg : Gl X x) (hm : X.mg x = none) (hv : bootBuiltins x = some (.type T0)) (ha : WA X c (e :: es) ws) (hn : x ≠ "__name__" := by decide) (hdb : (x == ("__debug__" : Str)) = false := by decide)
    (he : starEach (e :: es) X.env = (false, eval e X.env) :: starEach es X.env := by rfl) (hpl : (backTo pos (starEach es X.env)).any (·.1) = false := by rfl) : WE X c (.Call (.Name x p) (e :: es) [] pos) (wN o ws) :=
  PE.imp (pe_callTy hc hg hm hv ha hn hdb he hpl) fun _ _ _ h => impN lf h
end
end TL
set_option Elab.async false
set_option linter.all false
set_option maxRecDepth 100000
set_option maxHeartbeats 1000000
/-! TL4: what each operation makes of trees. -/
namespace TL
open PySem PySem.Spec PyProof.Rows L2
/-! ### == of data -/
mutual
def D.py : D → PyData
  | .non => .none
  | .bl b => .bool b
  | .int i => .int i
  | .str l => .str (mkS l)
  | .lst ds => .list (D.pys ds)
  | .tup ds => .tuple (D.pys ds)
  | .scr ns => .list (ns.map .int)
  | .dk _ => .dict []
  | .dt _ => .dict []
  | .ins _ _ => .dict []
  | .rng => .dict []
def D.pys : List D → List PyData
  | [] => []
  | d :: ds => d.py :: D.pys ds
end
mutual
def T.toD : T → D
  | .fr d => d
  | .tup ts => .tup (T.toDs ts)
  | .lst _ ts => .lst (T.toDs ts)
  | .dk _ _ => .dk []
  | .dt _ _ => .dt []
  | .ins _ C _ => .ins C []
def T.toDs : List T → List D
  | [] => []
  | t :: ts => t.toD :: T.toDs ts
end
/-- no dict in it, and not deep -/
def okP : Nat → D → Bool
  | _, .non => true
  | _, .bl _ => true
  | _, .int _ => true
  | _, .str _ => true
  | n + 1, .lst ds => ds.all (okP n)
  | n + 1, .tup ds => ds.all (okP n)
  | _ + 1, .scr _ => true
  | _, _ => false
def eqD (a b : D) : Bool := PyData.eqv a.py b.py
theorem eqD_int (i j : Int) : eqD (.int i) (.int j) = decide (i = j) := by show (i == j) = _; rw [Bool.eq_iff_iff]; simp
theorem eqD_bl (i j : Bool) : eqD (.bl i) (.bl j) = decide (i = j) := by show (i == j) = _; cases i <;> cases j <;> rfl
theorem mkS_inj {a b : List Nat} : mkS a = mkS b ↔ a = b := ⟨fun h => by have := congrArg tl h; exact this, fun h => by rw [h]⟩
theorem eqD_str (i j : List Nat) : eqD (.str i) (.str j) = decide (i = j) := by
  show (mkS i == mkS j) = _
  rw [Bool.eq_iff_iff]
  simp [mkS_inj]
theorem eqD_lst_nil (b : List D) : eqD (.lst []) (.lst b) = decide (b = []) := by cases b <;> rfl
theorem eqD_lst_nil' (b : List D) : eqD (.lst b) (.lst []) = decide (b = []) := by cases b <;> rfl
theorem eqD_lst_cons (a b : D) (as bs : List D) : eqD (.lst (a :: as)) (.lst (b :: bs)) = (eqD a b && eqD (.lst as) (.lst bs)) := rfl
theorem eqD_tup_nil (b : List D) : eqD (.tup []) (.tup b) = decide (b = []) := by cases b <;> rfl
theorem eqD_tup_nil' (b : List D) : eqD (.tup b) (.tup []) = decide (b = []) := by cases b <;> rfl
theorem eqD_tup_cons (a b : D) (as bs : List D) : eqD (.tup (a :: as)) (.tup (b :: bs)) = (eqD a b && eqD (.tup as) (.tup bs)) := rfl
theorem eqD_tup_lst (a b : List D) : eqD (.tup a) (.tup b) = eqD (.lst a) (.lst b) := rfl
theorem depthA {ds : List PyData} {n : Nat} (h : ∀ d ∈ ds, d.depth ≤ n) : PyData.depthAll ds ≤ n := by
  induction ds with
  | nil => exact Nat.zero_le _
  | cons d ds ih =>
    show max d.depth (PyData.depthAll ds) ≤ n
    exact Nat.max_le.mpr ⟨h d (List.mem_cons_self ..), ih fun e he => h e (List.mem_cons_of_mem _ he)⟩
section
variable {K : PySem.W.Frag} {G G' : Gh} {H H' : Hp} {c : Nat}
theorem strOk_of {l : List Nat} (h : ∀ c ∈ l, c < 0x110000) : PyData.strOk (mkS l) = true := by
  unfold PyData.strOk mkS
  simp only [Array.all_eq_true, decide_eq_true_eq]
  intro i hi
  exact h _ (by simp)
theorem lay_ints (ns : List Int) : PyData.canLayAll0 (ns.map .int) = true := by
  induction ns with
  | nil => rfl
  | cons n ns ih => show (PyData.canLay0 (.int n) && _) = true; rw [ih]; rfl
theorem depth_ints (ns : List Int) : PyData.depthAll (ns.map .int) = 0 := by
  induction ns with
  | nil => rfl
  | cons n ns ih => show max 0 _ = 0; rw [ih]; rfl
mutual
theorem shapeD : ∀ {v : V} {d : D} (n : Nat), RepD K G v d → okP n d = true → d.py.canLay0 = true ∧ d.py.depth ≤ n
  | _, _, _, .non, _ => ⟨rfl, Nat.zero_le _⟩
  | _, _, _, .bl _, _ => ⟨rfl, Nat.zero_le _⟩
  | _, _, _, .int _, _ => ⟨rfl, Nat.zero_le _⟩
  | _, _, _, .str _ h _, _ => ⟨strOk_of h, Nat.zero_le _⟩
  | _, _, 0, .lst _ r, h => by cases h
  | _, _, n + 1, .lst (ds := ds) _ r, h => by
    have q := shapeDs n r (by simpa [okP] using h)
    exact ⟨q.1, by show PyData.depthAll _ + 1 ≤ n + 1; exact Nat.succ_le_succ (depthA q.2)⟩
  | _, _, 0, .tup _ r, h => by cases h
  | _, _, n + 1, .tup (ds := ds) _ r, h => by
    have q := shapeDs n r (by simpa [okP] using h)
    exact ⟨q.1, by show PyData.depthAll _ + 1 ≤ n + 1; exact Nat.succ_le_succ (depthA q.2)⟩
  | _, _, 0, .scr _, h => by cases h
  | _, _, n, .dk _ _, h => by cases n <;> cases h
  | _, _, n, .dt _ _, h => by cases n <;> cases h
  | _, _, n, .ins _ _, h => by cases n <;> cases h
  | _, _, n, .rng _, h => by cases n <;> cases h
  | _, _, n + 1, .scr (ns := ns) _, h => ⟨lay_ints ns, by show PyData.depthAll _ + 1 ≤ n + 1; rw [depth_ints]; omega⟩
theorem shapeDs : ∀ {vs : List V} {ds : List D} (n : Nat), RepDs K G vs ds → (∀ d ∈ ds, okP n d = true) → PyData.canLayAll0 (D.pys ds) = true ∧ ∀ e ∈ D.pys ds, e.depth ≤ n
  | _, _, _, .nil, _ => ⟨rfl, fun _ z => nomatch z⟩
  | _, _, n, .cons r t, h => by
    have q := shapeD n r (h _ (List.mem_cons_self ..))
    have p := shapeDs n t fun d hd => h d (List.mem_cons_of_mem _ hd)
    exact ⟨by show (_ && _) = true; rw [q.1, p.1]; rfl, fun e he => by
      rcases List.mem_cons.mp he with rfl | he
      · exact q.2
      · exact p.2 e he⟩
end
mutual
theorem dpD (hd : Holds G H) : ∀ {v : V} {d : D} (n : Nat), RepD K G v d → okP n d = true → Dp K H v d.py
  | _, _, _, .non, _ => .non
  | _, _, _, .bl b, _ => .bl b
  | _, _, _, .int i, _ => .int i
  | _, _, _, .str (x := x) e _ _, _ => by subst e; exact (show mkS (tl x) = x from mk_tl x) ▸ Dp.str _
  | _, _, 0, .lst _ r, h => by cases h
  | _, _, n + 1, .lst e r, h => .lst (SqL.of (hd.ho _ _ e).lst) (dpDs hd n r (by simpa [okP] using h))
  | _, _, 0, .tup _ r, h => by cases h
  | _, _, n + 1, .tup e r, h => .tup (SqT.of (hd.ho _ _ e).tup) (dpDs hd n r (by simpa [okP] using h))
  | _, _, 0, .scr _, h => by cases h
  | _, _, n, .dk _ _, h => by cases n <;> cases h
  | _, _, n, .dt _ _, h => by cases n <;> cases h
  | _, _, n, .ins _ _, h => by cases n <;> cases h
  | _, _, n, .rng _, h => by cases n <;> cases h
  | _, _, n + 1, .scr e, h => .lst (e.elim (fun q => .inl (hd.scr _ _ q)) fun q => .inr q) (dpInts _)
theorem dpDs (hd : Holds G H) : ∀ {vs : List V} {ds : List D} (n : Nat), RepDs K G vs ds → (∀ d ∈ ds, okP n d = true) → DpAll K H vs (D.pys ds)
  | _, _, _, .nil, _ => .nil
  | _, _, n, .cons r t, h => .cons (dpD hd n r (h _ (List.mem_cons_self ..))) (dpDs hd n t fun d hd => h d (List.mem_cons_of_mem _ hd))
theorem dpInts : ∀ ns : List Int, DpAll K H (ns.map .int) (ns.map .int)
  | [] => .nil
  | n :: ns => .cons (.int n) (dpInts ns)
end
mutual
theorem shapeT (hd : Holds G H) : ∀ {v : V} {t : T} {f : Fps} (n : Nat), RepT K G H v t f → okP n t.toD = true → Dp K H v t.toD.py ∧ t.toD.py.canLay0 = true ∧ t.toD.py.depth ≤ n
  | _, _, _, n, .fr r, h => ⟨dpD hd n r h, shapeD n r h⟩
  | _, _, _, 0, .tup _ r, h => by cases h
  | _, _, _, n + 1, .tup e r, h => by
    have q := shapeTs hd n r (by simpa [okP, T.toD] using h)
    exact ⟨.tup (SqT.of (hd.ho _ _ e).tup) q.1, q.2.1, by show PyData.depthAll _ + 1 ≤ n + 1; exact Nat.succ_le_succ (depthA q.2.2)⟩
  | _, _, _, 0, .lst _ _ r, h => by cases h
  | _, _, _, n + 1, .lst e _ r, h => by
    have q := shapeTs hd n r (by simpa [okP, T.toD] using h)
    exact ⟨.lst (SqL.of e) q.1, q.2.1, by show PyData.depthAll _ + 1 ≤ n + 1; exact Nat.succ_le_succ (depthA q.2.2)⟩
  | _, _, _, n, .dk _ _ r, h => by cases n <;> cases h
  | _, _, _, n, .dt _ _ r, h => by cases n <;> cases h
  | _, _, _, n, .ins _ _ _ _ r, h => by cases n <;> cases h
theorem shapeTs (hd : Holds G H) : ∀ {vs : List V} {ts : List T} {f : Fps} (n : Nat), RepTs K G H vs ts f → (∀ d ∈ T.toDs ts, okP n d = true) → DpAll K H vs (D.pys (T.toDs ts)) ∧ PyData.canLayAll0 (D.pys (T.toDs ts)) = true ∧ ∀ e ∈ D.pys (T.toDs ts), e.depth ≤ n
  | _, _, _, _, .nil, _ => ⟨.nil, rfl, fun _ z => nomatch z⟩
  | _, _, _, n, .cons r t, h => by
    have q := shapeT hd n r (h _ (List.mem_cons_self ..))
    have p := shapeTs hd n t fun d hd => h d (List.mem_cons_of_mem _ hd)
    exact ⟨.cons q.1 p.1, by show (_ && _) = true; rw [q.2.1, p.2.1]; rfl, fun e he => by
      rcases List.mem_cons.mp he with rfl | he
      · exact q.2.2
      · exact p.2.2 e he⟩
end
def oEq : T → T → (T → Prop) → Prop := fun x y P => okP 60 x.toD = true ∧ okP 60 y.toD = true ∧ P (.fr (.bl (eqD x.toD y.toD)))
def oNe : T → T → (T → Prop) → Prop := fun x y P => okP 60 x.toD = true ∧ okP 60 y.toD = true ∧ P (.fr (.bl (!eqD x.toD y.toD)))
theorem shaped_of {p : PyData} (h : p.canLay0 = true ∧ p.depth ≤ 60) : SeqAt.shaped p = true := by
  unfold SeqAt.shaped
  rw [h.1, Bool.true_and]
  exact decide_eq_true (Nat.le_trans h.2 (by decide))
theorem l_eq : Leaf2 K (rEqD K) oEq := fun G H x y tx ty fx fy P Q hd lk rx ry h k => by
  have qx := shapeT hd 60 rx h.1
  have qy := shapeT hd 60 ry h.2.1
  exact ⟨_, _, qx.1, qy.1, shaped_of qx.2, shaped_of qy.2, k _ _ [] G H (Ext.refl hd) (.fr (.bl _)) (fun _ z => nomatch z) h.2.2⟩
theorem l_ne : Leaf2 K (rNeD K) oNe := fun G H x y tx ty fx fy P Q hd lk rx ry h k => by
  have qx := shapeT hd 60 rx h.1
  have qy := shapeT hd 60 ry h.2.1
  exact ⟨_, _, qx.1, qy.1, shaped_of qx.2, shaped_of qy.2, k _ _ [] G H (Ext.refl hd) (.fr (.bl _)) (fun _ z => nomatch z) h.2.2⟩
end
end TL
set_option Elab.async false
set_option linter.all false
set_option maxRecDepth 100000
set_option maxHeartbeats 1000000
/-! TL5: arithmetic, order, subscripts, membership, built-ins. -/
namespace TL
open PySem PySem.Spec PyProof.Rows L2
section
variable {K : PySem.W.Frag} {G G' : Gh} {H H' : Hp} {c : Nat}
theorem noFp {f : Fps} : ∀ q ∈ ([] : Fps), q ∈ f := fun _ z => nomatch z
theorem noFp2 {f g : Fps} : ∀ q ∈ ([] : Fps), q ∈ f ∨ q ∈ g := fun _ z => nomatch z
/-- new objects that stand still -/
theorem newLst (hd : Holds G H) {p : Addr} (hp : H p = none) {vs : List V} {ds : List D} (r : RepDs K G vs ds) : Ext 0 G H (G.put p (.ho (.lst vs))) (upd H p (.lst vs)) ∧ RepD K (G.put p (.ho (.lst vs))) (.ref p) (.lst ds) :=
  have x := Ext.alloc hd hp (.lst vs)
  ⟨x, .lst Gh.put_same (r.ext x)⟩
theorem newTup (hd : Holds G H) {p : Addr} (hp : H p = none) {vs : List V} {ds : List D} (r : RepDs K G vs ds) : Ext 0 G H (G.put p (.ho (.tup vs))) (upd H p (.tup vs)) ∧ RepD K (G.put p (.ho (.tup vs))) (.ref p) (.tup ds) :=
  have x := Ext.alloc hd hp (.tup vs)
  ⟨x, .tup Gh.put_same (r.ext x)⟩
/-! ### + -/
def oAdd : T → T → (T → Prop) → Prop
  | .fr (.int i), .fr (.int j), P => P (.fr (.int (i + j)))
  | .fr (.str a), .fr (.str b), P => a.length + b.length ≤ sizeLine ∧ P (.fr (.str (a ++ b)))
  | .fr (.lst a), .fr (.lst b), P => a.length + b.length ≤ sizeLine ∧ P (.fr (.lst (a ++ b)))
  | .fr (.tup (a :: as)), .fr (.tup b), P => (a :: as).length + b.length ≤ sizeLine ∧ P (.fr (.tup ((a :: as) ++ b)))
  | _, _, _ => False
def rAddV (K : PySem.W.Frag) : R2 := fun x y H Q => (rI0 fun i j => .int (i + j)) x y H Q ∨ (∃ i j, x = .str i ∧ y = .str j ∧ i.length + j.length ≤ sizeLine ∧ Q (.str (i ++ j)) H) ∨ rCat x y H Q ∨ rCatT K x y H Q
theorem op_addV {X : Cx} : OpR X (binaryOp .Add) (rAddV X.K) := op_add.or (op_add_str.or (op_cat.or op_catT))
theorem RepD.strI {x : Str} {l : List Nat} (e : tl x = l) (h : ∀ c ∈ l, c < 0x110000) (z : l.length ≤ sizeLine) : RepD K G (.str x) (.str l) := .str e h z
theorem RepDs.append {vs ws : List V} {ds es : List D} (r : RepDs K G vs ds) (q : RepDs K G ws es) : RepDs K G (vs ++ ws) (ds ++ es) := by
  induction ds generalizing vs with
  | nil => cases r; exact q
  | cons d ds ih => cases r with | cons a b => exact .cons a (ih b)
theorem l_add : Leaf2 K (rAddV K) oAdd := fun G H x y tx ty fx fy P Q hd lk rx ry h k => by
  unfold oAdd at h
  split at h
  · next i j =>
    rw [rx.d.1.int', ry.d.1.int']
    exact .inl ⟨i, j, rfl, rfl, k _ _ [] G H (Ext.refl hd) (.fr (.int _)) noFp2 h⟩
  · next a b =>
    obtain ⟨x1, rfl, e1, c1, z1⟩ := rx.d.1.str'
    obtain ⟨x2, rfl, e2, c2, z2⟩ := ry.d.1.str'
    refine .inr (.inl ⟨x1, x2, rfl, rfl, by rw [len_tl, len_tl, e1, e2]; exact h.1, k _ _ [] G H (Ext.refl hd) (.fr (.str (by rw [tl_append, e1, e2]) (fun c hc => ?_) (by rw [List.length_append]; exact h.1))) noFp2 h.2⟩)
    exact (List.mem_append.mp hc).elim (c1 c) (c2 c)
  · next a b =>
    obtain ⟨p, vs, rfl, h1, _, r1⟩ := rx.d.1.lst' hd
    obtain ⟨q, ws, rfl, h2, _, r2⟩ := ry.d.1.lst' hd
    refine .inr (.inr (.inl ⟨p, q, vs, ws, rfl, rfl, h1, h2, by rw [r1.length, r2.length]; exact h.1, fun n hn => ?_⟩))
    have z := newLst (K := K) hd hn (r1.append r2)
    exact k _ _ [] _ _ z.1 (.fr z.2) noFp2 h.2
  · next a as b =>
    obtain ⟨p, vs, rfl, h1, _, r1⟩ := rx.d.1.tup' hd
    obtain ⟨q, ws, rfl, h2, _, r2⟩ := ry.d.1.tup' hd
    refine .inr (.inr (.inr ⟨p, q, vs, ws, rfl, rfl, SqT.of h1, SqT.of h2, fun e => ?_, by rw [r1.length, r2.length]; exact h.1, fun e => ?_, fun _ n hn => ?_⟩))
    · subst e; cases r1
    · subst e
      cases r2
      exact k _ _ [] G H (Ext.refl hd) (.fr rx.d.1) noFp2 (by simpa using h.2)
    · have z := newTup (K := K) hd hn (r1.append r2)
      exact k _ _ [] _ _ z.1 (.fr z.2) noFp2 h.2
  · exact h.elim
/-! ### whole numbers -/
def oI (C : Int → Int → Prop) (g : Int → Int → D) : T → T → (T → Prop) → Prop
  | .fr (.int i), .fr (.int j), P => C i j ∧ P (.fr (g i j))
  | _, _, _ => False
def oI0 (g : Int → Int → D) : T → T → (T → Prop) → Prop
  | .fr (.int i), .fr (.int j), P => P (.fr (g i j))
  | _, _, _ => False
theorem l_I {C : Int → Int → Prop} {g : Int → Int → V} {g' : Int → Int → D} (r : ∀ G i j, RepD K G (g i j) (g' i j)) : Leaf2 K (rI C g) (oI C g') := fun G H x y tx ty fx fy P Q hd lk rx ry h k => by
  unfold oI at h
  split at h
  · next i j =>
    rw [rx.d.1.int', ry.d.1.int']
    exact ⟨i, j, rfl, rfl, h.1, k _ _ [] G H (Ext.refl hd) (.fr (r G i j)) noFp2 h.2⟩
  · exact h.elim
theorem l_I0 {g : Int → Int → V} {g' : Int → Int → D} (r : ∀ G i j, RepD K G (g i j) (g' i j)) : Leaf2 K (rI0 g) (oI0 g') := fun G H x y tx ty fx fy P Q hd lk rx ry h k => by
  unfold oI0 at h
  split at h
  · next i j =>
    rw [rx.d.1.int', ry.d.1.int']
    exact ⟨i, j, rfl, rfl, k _ _ [] G H (Ext.refl hd) (.fr (r G i j)) noFp2 h⟩
  · exact h.elim
abbrev oSub := oI0 fun i j => .int (i - j)
abbrev oMul := oI CMul fun i j => .int (i * j)
abbrev oDiv := oI CDiv fun i j => .int (i / j)
abbrev oMod := oI (fun _ j => 0 < j) fun i j => .int (i % j)
abbrev oPow := oI CPow fun i j => .int (i ^ j.toNat)
abbrev oLt := oI0 fun i j => .bl (decide (i < j))
abbrev oLe := oI0 fun i j => .bl (decide (i ≤ j))
abbrev oGt := oI0 fun i j => .bl (decide (j < i))
abbrev oGe := oI0 fun i j => .bl (decide (j ≤ i))
theorem l_sub : Leaf2 K (rI0 fun i j => .int (i - j)) oSub := l_I0 fun _ _ _ => .int _
theorem l_mul : Leaf2 K (rI CMul fun i j => .int (i * j)) oMul := l_I fun _ _ _ => .int _
theorem l_div : Leaf2 K (rI CDiv fun i j => .int (i / j)) oDiv := l_I fun _ _ _ => .int _
theorem l_mod : Leaf2 K (rI (fun _ j => 0 < j) fun i j => .int (i % j)) oMod := l_I fun _ _ _ => .int _
theorem l_pow : Leaf2 K (rI CPow fun i j => .int (i ^ j.toNat)) oPow := l_I fun _ _ _ => .int _
theorem l_lt : Leaf2 K (rI0 fun i j => .bl (decide (i < j))) oLt := l_I0 fun _ _ _ => .bl _
theorem l_le : Leaf2 K (rI0 fun i j => .bl (decide (i ≤ j))) oLe := l_I0 fun _ _ _ => .bl _
theorem l_gt : Leaf2 K (rI0 fun i j => .bl (decide (j < i))) oGt := l_I0 fun _ _ _ => .bl _
theorem l_ge : Leaf2 K (rI0 fun i j => .bl (decide (j ≤ i))) oGe := l_I0 fun _ _ _ => .bl _
/-! ### is None -/
def isNon : T → Bool
  | .fr .non => true
  | _ => false
def oIsN : T → T → (T → Prop) → Prop := fun x y P => y = .fr .non ∧ P (.fr (.bl (isNon x)))
def oNotN : T → T → (T → Prop) → Prop := fun x y P => y = .fr .non ∧ P (.fr (.bl (!isNon x)))
theorem isNon_ok {v : V} {t : T} {f : Fps} (r : RepT K G H v t f) : decide (v = .non) = isNon t := by
  cases r with
  | fr r => cases r <;> rfl
  | _ => rfl
theorem l_isN : Leaf2 K (fun x y H Q => y = .non ∧ Q (.bl (decide (x = .non))) H) oIsN := fun G H x y tx ty fx fy P Q hd lk rx ry h k => by
  obtain ⟨rfl, h⟩ := h
  refine ⟨ry.d.1.non', ?_⟩
  rw [isNon_ok rx]
  exact k _ _ [] G H (Ext.refl hd) (.fr (.bl _)) noFp2 h
theorem l_notN : Leaf2 K (fun x y H Q => y = .non ∧ Q (.bl (!decide (x = .non))) H) oNotN := fun G H x y tx ty fx fy P Q hd lk rx ry h k => by
  obtain ⟨rfl, h⟩ := h
  refine ⟨ry.d.1.non', ?_⟩
  rw [isNon_ok rx]
  exact k _ _ [] G H (Ext.refl hd) (.fr (.bl _)) noFp2 h
/-! ### subscripts -/
/-- the value at a key -/
def getK {κ : Type} [DecidableEq κ] {α : Type} (kvs : List (κ × α)) (k : κ) : Option α := (kvs.find? fun kv => decide (kv.1 = k)).map (·.2)
def keyD : D → Option KY
  | .int i => some (.inl i)
  | .str l => some (.inr l)
  | _ => none
def keysD : List D → Option (List KY)
  | [] => some []
  | d :: ds => match keyD d, keysD ds with
    | some k, some ks => some (k :: ks)
    | _, _ => none
/-- what a dict has at a key: none where the key isn't one -/
def dGet : T → T → Option (Option T)
  | .fr (.dk kvs), .fr d => (keyD d).map fun k => (getK kvs k).map .fr
  | .dk _ kvs, .fr d => (keyD d).map fun k => getK kvs k
  | .fr (.dt kvs), .fr (.tup ds) => (keysD ds).map fun k => (getK kvs k).map .fr
  | .dt _ kvs, .fr (.tup ds) => (keysD ds).map fun k => getK kvs k
  | _, _ => none
def oIx : T → T → (T → Prop) → Prop := fun x y P => match elems x, y with
  | some (_, ts), .fr (.int i) => match atI ts i with
    | some t => P t
    | none => False
  | none, y => match x, y with
    | .fr (.str l), .fr (.int i) => match atI l i with
      | some c => P (.fr (.str [c]))
      | none => False
    | x, y => match dGet x y with
      | some (some t) => P t
      | _ => False
  | _, _ => False
def rIxD : R2 := fun x y H Q => ∃ a v, x = .ref a ∧ DGet H a y (some v) ∧ Q v H
theorem ix_dict {X : Cx} (hu : X.A.units + 1 < cLine) : IxR X rIxD := by
  intro value slice pins s σ H x y v u Q I rx ry h hs
  obtain ⟨a, w', rfl, g, q⟩ := h
  obtain rfl : v = Value.ref a := rx
  exact tail_any (dict_typeIs I g) PySem.F.slot_dict_getitem.lookup (d_getItem hu I g ry fun w2 s3 I3 rw' => ⟨_, H, I3, rw', q⟩) hs
theorem getK_zip {κ κ' : Type} [DecidableEq κ] [DecidableEq κ'] (g : κ → κ') (hg : ∀ a b, g a = g b → a = b) {α : Type} : ∀ (kvs : List (κ × α)) (vs : List V) (k : κ), vs.length = kvs.length →
    (∃ (i : Nat) (v : V) (x : α), ((kvs.map (g ·.1)).zip vs).find? (fun kv => decide (kv.1 = g k)) = some (g k, v) ∧ vs[i]? = some v ∧ (kvs.map (·.2))[i]? = some x ∧ getK kvs k = some x) ∨ (((kvs.map (g ·.1)).zip vs).find? (fun kv => decide (kv.1 = g k)) = none ∧ getK kvs k = none)
  | [], [], k, _ => .inr ⟨rfl, rfl⟩
  | (k', x) :: kvs, v :: vs, k, h => by
    by_cases e : k' = k
    · subst e
      exact .inl ⟨0, v, x, by simp, rfl, rfl, by simp [getK]⟩
    · have ne : ¬ g k' = g k := fun z => e (hg _ _ z)
      have e1 : getK ((k', x) :: kvs) k = getK kvs k := by simp [getK, List.find?, e]
      rcases getK_zip g hg kvs vs k (by simpa using h) with ⟨i, v', x', h1, h2, h3, h4⟩ | ⟨h1, h2⟩
      · exact .inl ⟨i + 1, v', x', by simpa [List.find?, ne] using h1, by simpa using h2, by simpa using h3, by rw [e1]; exact h4⟩
      · exact .inr ⟨by simpa [List.find?, ne] using h1, by rw [e1]; exact h2⟩
  | [], _ :: _, _, h => by simp at h
  | _ :: _, [], _, h => by simp at h
theorem toK_inj (a b : KY) (h : toK a = toK b) : a = b := by
  cases a <;> cases b <;> simp [toK, mkS_inj] at h ⊢ <;> first | exact h | exact absurd h (by simp)
theorem toKs_inj : ∀ (a b : List KY), a.map toK = b.map toK → a = b
  | [], [], _ => rfl
  | a :: as, b :: bs, h => by
    simp only [List.map_cons, List.cons.injEq] at h
    rw [toK_inj _ _ h.1, toKs_inj _ _ h.2]
  | [], _ :: _, h => by simp at h
  | _ :: _, [], h => by simp at h
theorem keyD_ok {v : V} {d : D} {k : KY} (r : RepD K G v d) (e : keyD d = some k) : v = kV (toK k) := by
  cases r with
  | int i => cases e; rfl
  | str e2 _ _ => cases e; subst e2; show V.str _ = V.str (mkS (tl _)); rw [show mkS (tl _) = _ from mk_tl _]
  | _ => cases e
theorem keysD_ok : ∀ {vs : List V} {ds : List D} {ks : List KY}, RepDs K G vs ds → keysD ds = some ks → vs = (ks.map toK).map kV
  | _, _, _, .nil, e => by cases e; rfl
  | _, _, _, .cons (d := d) (ds := ds) r t, e => by
    unfold keysD at e
    cases h1 : keyD d with
    | none => rw [h1] at e; cases e
    | some k =>
      cases h2 : keysD ds with
      | none => rw [h1, h2] at e; cases e
      | some ks =>
        rw [h1, h2] at e
        cases e
        rw [keyD_ok r h1, keysD_ok t h2]
        rfl
theorem HoAt.rd {a : Addr} {o : HO} (h : HoAt H a o) : Rd H a o := h.imp id fun ⟨ob, e, _⟩ => ⟨ob, e⟩
def optR (R : V → T → Prop) : Option V → Option T → Prop
  | some v, some t => R v t
  | none, none => True
  | _, _ => False
theorem optR.mono {R S : V → T → Prop} (h : ∀ v t, R v t → S v t) : ∀ {o : Option V} {u : Option T}, optR R o u → optR S o u
  | some _, some _, r => h _ _ r
  | none, none, _ => trivial
  | some _, none, r => r.elim
  | none, some _, r => r.elim
theorem pickT {κ κ' : Type} [DecidableEq κ] [DecidableEq κ'] (g : κ → κ') (hg : ∀ a b, g a = g b → a = b) (kvs : List (κ × T)) (vs : List V) (f : Fps) (k : κ) (r : RepTs K G H vs (kvs.map (·.2)) f) :
    optR (fun v t => ∃ g, RepT K G H v t g ∧ ∀ q ∈ g, q ∈ f) (valV ((kvs.map (g ·.1)).zip vs) (g k)) (getK kvs k) := by
  unfold valV
  rcases getK_zip g hg kvs vs k (by rw [r.length, List.length_map]) with ⟨i, v, t, h1, h2, h3, h4⟩ | ⟨h1, h2⟩
  · rw [h1, h4]
    obtain ⟨v', gg, e1, r1, s1⟩ := r.get h3
    rw [h2] at e1; cases e1
    exact ⟨gg, r1, s1⟩
  · rw [h1, h2]; trivial
theorem pickD {κ κ' : Type} [DecidableEq κ] [DecidableEq κ'] (g : κ → κ') (hg : ∀ a b, g a = g b → a = b) (kvs : List (κ × D)) (vs : List V) (f : Fps) (k : κ) (r : RepDs K G vs (kvs.map (·.2))) :
    optR (fun v t => ∃ g, RepT K G H v t g ∧ ∀ q ∈ g, q ∈ f) (valV ((kvs.map (g ·.1)).zip vs) (g k)) ((getK kvs k).map T.fr) := by
  unfold valV
  rcases getK_zip g hg kvs vs k (by rw [r.length, List.length_map]) with ⟨i, v, t, h1, h2, h3, h4⟩ | ⟨h1, h2⟩
  · rw [h1, h4]
    obtain ⟨v', e1, r1⟩ := r.get h3
    rw [h2] at e1; cases e1
    exact ⟨[], .fr r1, noFp⟩
  · rw [h1, h2]; trivial
/-- DGet of what stands there -/
theorem dGet_ok {x y : V} {tx ty : T} {fx fy : Fps} {o : Option T} (hd : Holds G H) (rx : RepT K G H x tx fx) (ry : RepT K G H y ty fy) (e : dGet tx ty = some o) :
    ∃ a ov, x = .ref a ∧ DGet H a y ov ∧ optR (fun v t => ∃ g, RepT K G H v t g ∧ ∀ q ∈ g, q ∈ fx) ov o := by
  unfold dGet at e
  split at e
  · next kvs d =>
    try dsimp only at e
    cases hk : keyD d with
    | none => rw [hk] at e; cases e
    | some k =>
      rw [hk] at e; cases e
      obtain ⟨r, _⟩ := rx.d
      cases r with
      | dk e1 r1 =>
        rw [keyD_ok ry.d.1 hk]
        exact ⟨_, _, rfl, .inl ⟨_, toK k, (hd.ho _ _ e1).rd, rfl, rfl⟩, pickD toK toK_inj kvs _ _ k r1⟩
  · next m kvs d =>
    try dsimp only at e
    cases hk : keyD d with
    | none => rw [hk] at e; cases e
    | some k =>
      rw [hk] at e; cases e
      cases rx with
      | dk e1 n r1 =>
        rw [keyD_ok ry.d.1 hk]
        exact ⟨_, _, rfl, .inl ⟨_, toK k, .inl e1, rfl, rfl⟩, (pickT toK toK_inj kvs _ _ k r1).mono fun v t ⟨g, r, s⟩ => ⟨g, r, fun q hq => List.mem_cons_of_mem _ (s q hq)⟩⟩
  · next kvs ds =>
    try dsimp only at e
    cases hk : keysD ds with
    | none => rw [hk] at e; cases e
    | some k =>
      rw [hk] at e; cases e
      obtain ⟨r, _⟩ := rx.d
      obtain ⟨b, vs, rfl, hb, _, rb⟩ := ry.d.1.tup' hd
      have ek := keysD_ok rb hk
      subst ek
      cases r with
      | dt e1 r1 => exact ⟨_, _, rfl, .inr ⟨_, k.map toK, b, (hd.ho _ _ e1).rd, rfl, hb, rfl⟩, pickD (·.map toK) toKs_inj kvs _ _ k r1⟩
  · next m kvs ds =>
    try dsimp only at e
    cases hk : keysD ds with
    | none => rw [hk] at e; cases e
    | some k =>
      rw [hk] at e; cases e
      obtain ⟨b, vs, rfl, hb, _, rb⟩ := ry.d.1.tup' hd
      have ek := keysD_ok rb hk
      subst ek
      cases rx with
      | dt e1 n r1 => exact ⟨_, _, rfl, .inr ⟨_, k.map toK, b, .inl e1, rfl, hb, rfl⟩, (pickT (·.map toK) toKs_inj kvs _ _ k r1).mono fun v t ⟨g, r, s⟩ => ⟨g, r, fun q hq => List.mem_cons_of_mem _ (s q hq)⟩⟩
  · cases e
def rIxV (K : PySem.W.Frag) : R2 := fun x y H Q => rIx K x y H Q ∨ rIxD x y H Q
theorem ix_V {X : Cx} (hu : X.A.units + 1 < cLine) : IxR X (rIxV X.K) := ix_seq.or (ix_dict hu)
theorem atI_map {α β : Type} (g : α → β) (xs : List α) (i : Int) : atI (xs.map g) i = (atI xs i).map g := by
  unfold atI
  rw [List.length_map]
  cases ixN xs.length i with
  | none => rfl
  | some j => simp
theorem atI_rep {vs : List V} {ts : List T} {f : Fps} {i : Int} {t : T} (r : RepTs K G H vs ts f) (h : atI ts i = some t) : ∃ v g, atI vs i = some v ∧ RepT K G H v t g ∧ ∀ q ∈ g, q ∈ f := by
  unfold atI at h ⊢
  rw [r.length]
  cases e : ixN ts.length i with
  | none => rw [e] at h; cases h
  | some j =>
    rw [e] at h
    obtain ⟨v, g, e1, r1, s1⟩ := r.get (show ts[j]? = some t from h)
    exact ⟨v, g, e1, r1, s1⟩
theorem l_ix : Leaf2 K (rIxV K) oIx := fun G H x y tx ty fx fy P Q hd lk rx ry h k => by
  unfold oIx at h
  split at h
  · next l ts i he =>
    split at h
    · next t ht =>
      obtain ⟨a, vs, g, rfl, hs, rv, sub⟩ := elems_ok hd rx he
      rw [ry.d.1.int']
      obtain ⟨v, g2, e1, r1, s1⟩ := atI_rep rv ht
      have fin := k v t g2 G H (Ext.refl hd) r1 (fun q hq => .inl (sub q (s1 q hq))) h
      cases l with
      | true => exact .inl (.inl ⟨a, vs, i, v, rfl, rfl, hs, e1, fin⟩)
      | false => exact .inl (.inr (.inl ⟨a, vs, i, v, rfl, rfl, hs, e1, fin⟩))
    · exact h.elim
  · next y0 he =>
    split at h
    · next l i =>
      split at h
      · next c hc =>
        obtain ⟨z, rfl, e1, c1, z1⟩ := rx.d.1.str'
        rw [ry.d.1.int']
        refine .inl (.inr (.inr ⟨z, i, c, rfl, rfl, by rw [len_tl, e1]; exact z1, by rw [show z.cps.toList = l from e1]; exact hc, k _ _ [] G H (Ext.refl hd) (.fr (.str rfl (fun d hd => ?_) (by show 1 ≤ sizeLine; rw [sizeLine_eq]; decide))) noFp2 h⟩))
        have : d = c := by simpa [tl] using hd
        subst this
        obtain ⟨j, _, h2, _⟩ := atI_get hc
        exact c1 d (List.mem_of_getElem? h2)
      · exact h.elim
    · next x0 y1 _ =>
      split at h
      · next t ht =>
        obtain ⟨a, ov, rfl, g, o⟩ := dGet_ok hd rx ry ht
        cases ov with
        | none => exact o.elim
        | some v =>
          obtain ⟨g2, r1, s1⟩ := o
          exact .inr ⟨a, v, rfl, g, k v t g2 G H (Ext.refl hd) r1 (fun q hq => .inl (s1 q hq)) h⟩
      · exact h.elim
  · exact h.elim
end
section
variable {X : Cx} {a b : Expr} {pos : Pos} {ca cb : Nat} {wa wb : TW}
theorem we_ix {r : R2} {o : T → T → (T → Prop) → Prop} (hr : IxR X r) (lf : Leaf2 X.K r o) (ha : WE X ca a wa) (hb : WE X cb b wb) (hs : PlainIx b) : WE X (ca + cb) (.Subscript a b pos) (w2 o wa wb) := PE.imp (pe_ix hr ha hb hs) fun _ _ _ h => imp2 lf h
end
end TL
set_option Elab.async false
set_option linter.all false
set_option maxRecDepth 100000
set_option maxHeartbeats 1000000
/-! TL6: statements over trees; defs. -/
namespace TL
open PySem PySem.Spec PyProof.Rows L2
def mines (f : Fps) : List Addr := (f.filter (·.1)).map (·.2)
/-- what a text's statements run in: how many slots are pinned, what is wished of exceptions -/
structure Np where
  n : Nat
  wx : WX := fun _ _ _ _ => False
/-- a def's entry: the heap (without what the caller lends to be changed), the ghost -/
structure Ctx where
  H0 : Hp
  G0 : Gh
  pins : List V
def T.mine : T → Bool
  | .lst m _ => m
  | .dk m _ => m
  | .dt m _ => m
  | .ins m _ _ => m
  | _ => false
structure StOk (K : PySem.W.Frag) (Z : Ctx) (G : Gh) (H : Hp) (σ : L2.St) (ρ : Rho) : Prop where
  hd : Holds G H
  rep : ∃ fp, RepS K G H σ ρ fp ∧ (mines fp).Nodup ∧ (∀ a, (true, a) ∈ fp → Z.H0 a = none) ∧ ∀ a, (false, a) ∈ fp → Z.H0 a ≠ none
  sub : ∀ a g, Z.G0.obj a = some g → G.obj a = some g
  new : ∀ a, Z.G0.obj a = none → G.obj a ≠ none → Z.H0 a = none
  keep : ∀ a o, Z.H0 a = some o → mv (Z.G0.obj a) = false → H a = some o
  there : ∀ a, Z.H0 a ≠ none → H a ≠ none
  lo : Z.G0.n ≤ G.n
  pin : ∀ (i : Nat) (v : V) (t : T), Z.pins[i]? = some v → look ρ i = some t → t.mine = true → σ[i]? = some (some v)
section
variable {K : PySem.W.Frag} {Z : Ctx} {G G' : Gh} {H H' : Hp} {σ : L2.St} {ρ : Rho} {c : Nat}
theorem StOk.ext (s : StOk K Z G H σ ρ) (x : Ext c G H G' H') : StOk K Z G' H' σ ρ where
  hd := x.hd
  rep := by
    obtain ⟨fp, r, n, m, l⟩ := s.rep
    exact ⟨fp, r.ext x, n, m, l⟩
  sub := fun a g e => x.sub a g (s.sub a g e)
  new := fun a e n => by
    cases q : G.obj a with
    | some g => exact s.new a e (by rw [q]; exact fun z => nomatch z)
    | none =>
      have h1 := x.new a q n
      cases r : Z.H0 a with
      | none => rfl
      | some o => exact absurd h1 (s.there a (by rw [r]; exact fun z => nomatch z))
  keep := fun a o e n => by
    refine x.keep a o (s.keep a o e n) ?_
    cases q : Z.G0.obj a with
    | none =>
      cases z : G.obj a with
      | none => rfl
      | some g => have := s.new a q (by rw [z]; exact fun z => nomatch z); rw [e] at this; cases this
    | some g => rw [s.sub a g q, ← q]; exact n
  there := fun a n => x.there (s.there a n)
  lo := Nat.le_trans s.lo x.lo
  pin := s.pin
/-- nothing of it is ours to change -/
def Lent (f : Fps) : Prop := ∀ q ∈ f, q.1 = false
theorem mines_lent {f : Fps} (h : Lent f) : mines f = [] := by
  unfold mines
  rw [List.filter_eq_nil_iff.mpr fun q hq => by rw [h q hq]; exact Bool.false_ne_true]
  rfl
theorem mines_app (f g : Fps) : mines (f ++ g) = mines f ++ mines g := by simp [mines]
theorem mem_mines {f : Fps} {a : Addr} : a ∈ mines f ↔ (true, a) ∈ f := by
  unfold mines
  constructor
  · intro h
    obtain ⟨q, hq, e⟩ := List.mem_map.mp h
    obtain ⟨h1, h2⟩ := List.mem_filter.mp hq
    obtain ⟨q1, q2⟩ := q
    cases e
    have : q1 = true := h2
    subst this
    exact h1
  · intro h
    exact List.mem_map.mpr ⟨_, List.mem_filter.mpr ⟨h, rfl⟩, rfl⟩
/-- a slot is stored -/
theorem RepS.set {v : V} {t : T} {f : Fps} (r : RepT K G H v t f) : ∀ {σ : L2.St} {ρ : Rho} {fp : Fps} (i : Nat), RepS K G H σ ρ fp → ∃ fp', RepS K G H (σ.set i (some v)) (ρ.set i (some t)) fp' ∧ (∀ q ∈ fp', q ∈ fp ∨ q ∈ f) ∧ (Lent f → (mines fp').Sublist (mines fp))
  | _, _, _, i, .nil => ⟨[], .nil, (fun _ z => nomatch z), fun _ => List.Sublist.refl _⟩
  | _, _, _, 0, .no s => ⟨f ++ _, .so r s, fun q hq => (List.mem_append.mp hq).elim .inr .inl, fun l => by rw [mines_app, mines_lent l]; exact List.Sublist.refl _⟩
  | _, _, _, 0, .so (f := f0) r0 s => ⟨f ++ _, .so r s, fun q hq => (List.mem_append.mp hq).elim .inr fun z => .inl (List.mem_append_right _ z), fun l => by rw [mines_app, mines_app, mines_lent l]; exact List.sublist_append_right _ _⟩
  | _, _, _, i + 1, .no s => by
    obtain ⟨fp', h1, h2, h3⟩ := RepS.set r i s
    exact ⟨fp', .no h1, h2, h3⟩
  | _, _, _, i + 1, .so r0 s => by
    obtain ⟨fp', h1, h2, h3⟩ := RepS.set r i s
    refine ⟨_ ++ fp', .so r0 h1, fun q hq => (List.mem_append.mp hq).elim (fun z => .inl (List.mem_append_left _ z)) fun z => (h2 q z).imp (fun y => List.mem_append_right _ y) id, fun l => ?_⟩
    rw [mines_app, mines_app]
    exact List.Sublist.append (List.Sublist.refl _) (h3 l)
theorem look_set_ne : ∀ (ρ : Rho) (i j : Nat) (o : Option T), i ≠ j → look (ρ.set i o) j = look ρ j
  | [], _, _, _, _ => rfl
  | _ :: _, 0, 0, _, h => absurd rfl h
  | _ :: _, 0, _ + 1, _, _ => rfl
  | _ :: _, _ + 1, 0, _, _ => rfl
  | _ :: ρ, i + 1, j + 1, o, h => look_set_ne ρ i j o (by omega)
theorem look_set_eq : ∀ (ρ : Rho) (i : Nat) (o : Option T), look (ρ.set i o) i = o ∨ look (ρ.set i o) i = none
  | [], _, _ => .inr rfl
  | _ :: _, 0, _ => .inl rfl
  | _ :: ρ, i + 1, o => look_set_eq ρ i o
theorem mine_lent {v : V} {t : T} {f : Fps} (r : RepT K G H v t f) (l : Lent f) : t.mine = false := by
  cases r with
  | fr _ => rfl
  | tup _ _ => rfl
  | lst _ _ _ => exact l _ (List.mem_cons_self ..)
  | dk _ _ _ => exact l _ (List.mem_cons_self ..)
  | dt _ _ _ => exact l _ (List.mem_cons_self ..)
  | ins _ _ _ _ _ => exact l _ (List.mem_cons_self ..)
theorem StOk.set {v : V} {t : T} {f : Fps} (s : StOk K Z G H σ ρ) (r : RepT K G H v t f) (hf : ∀ fp, RepS K G H σ ρ fp → Lent f ∧ ∀ q ∈ f, q ∈ fp) (i : Nat) : StOk K Z G H (σ.set i (some v)) (ρ.set i (some t)) where
  hd := s.hd
  rep := by
    obtain ⟨fp, r0, n, m, l⟩ := s.rep
    obtain ⟨lf, sf⟩ := hf fp r0
    obtain ⟨fp', r1, h1, h2⟩ := RepS.set r i r0
    have h3 : ∀ q ∈ fp', q ∈ fp := fun q hq => (h1 q hq).elim id (sf q)
    exact ⟨fp', r1, (h2 lf).nodup n, fun a ha => m a (h3 _ ha), fun a ha => l a (h3 _ ha)⟩
  sub := s.sub
  new := s.new
  keep := s.keep
  there := s.there
  lo := s.lo
  pin := fun j u w e1 e2 e3 => by
    by_cases h : i = j
    · subst h
      rcases look_set_eq ρ i (some t) with q | q
      · rw [q] at e2; cases e2
        obtain ⟨fp, r0, _⟩ := s.rep
        rw [mine_lent r (hf fp r0).1] at e3; cases e3
      · rw [q] at e2; cases e2
    · rw [look_set_ne ρ i j _ h] at e2
      rw [List.getElem?_set_ne h]
      exact s.pin j u w e1 e2 e3
/-- what stands still, in a slot -/
theorem StOk.setD {v : V} {d : D} (s : StOk K Z G H σ ρ) (r : RepD K G v d) (i : Nat) : StOk K Z G H (σ.set i (some v)) (ρ.set i (some (.fr d))) := s.set (.fr r) (fun _ _ => ⟨(fun _ z => nomatch z), noFp⟩) i
theorem RepS.forget : ∀ {σ : L2.St} {ρ : Rho} {fp : Fps} (i : Nat), RepS K G H σ ρ fp → ∃ fp', RepS K G H σ (ρ.set i none) fp' ∧ fp'.Sublist fp
  | _, _, _, i, .nil => ⟨[], .nil, List.Sublist.refl _⟩
  | _, _, _, 0, .no s => ⟨_, .no s, List.Sublist.refl _⟩
  | _, _, _, 0, .so r0 s => ⟨_, .no s, List.sublist_append_right _ _⟩
  | _, _, _, i + 1, .no s => by
    obtain ⟨fp', h1, h2⟩ := RepS.forget i s
    exact ⟨fp', .no h1, h2⟩
  | _, _, _, i + 1, .so r0 s => by
    obtain ⟨fp', h1, h2⟩ := RepS.forget i s
    exact ⟨_ ++ fp', .so r0 h1, List.Sublist.append (List.Sublist.refl _) h2⟩
end
/-! ### the lift of statements -/
structure ET where
  nx : Rho → Prop
  rt : T → Rho → Prop
  bk : Rho → Prop := fun _ => False
  ct : Rho → Prop := fun _ => False
  ex : Addr → List (Str × D) → Rho → Prop := fun _ _ _ => False
abbrev TSW := ET → Rho → Prop
/-- a result beside the slots -/
structure Res (K : PySem.W.Frag) (Z : Ctx) (G : Gh) (H : Hp) (σ : L2.St) (ρ : Rho) (v : V) (t : T) : Prop where
  st : StOk K Z G H σ ρ
  rep : ∃ fp f, RepS K G H σ ρ fp ∧ RepT K G H v t f ∧ (mines (f ++ fp)).Nodup ∧ (∀ a, (true, a) ∈ f ++ fp → Z.H0 a = none) ∧ ∀ a, (false, a) ∈ f ++ fp → Z.H0 a ≠ none
theorem Res.ofD {K : PySem.W.Frag} {Z : Ctx} {G : Gh} {H : Hp} {σ : L2.St} {ρ : Rho} {v : V} {d : D} (s : StOk K Z G H σ ρ) (r : RepD K G v d) : Res K Z G H σ ρ v (.fr d) := by
  obtain ⟨fp, r0, n, m, l⟩ := s.rep
  exact ⟨s, fp, [], r0, .fr r, n, m, l⟩
theorem Res.d {K : PySem.W.Frag} {Z : Ctx} {G : Gh} {H : Hp} {σ : L2.St} {ρ : Rho} {v : V} {d : D} (r : Res K Z G H σ ρ v (.fr d)) : RepD K G v d := by
  obtain ⟨fp, f, r0, r1, _⟩ := r.rep
  exact r1.d.1
structure Goes (K : PySem.W.Frag) (Z : Ctx) (wx : WX) (n c : Nat) (E : ET) (Dn : Ends) : Prop where
  nx : ∀ σ ρ G H, StOk K Z G H σ ρ → G.n ≤ n + c → E.nx ρ → Dn.nx σ H
  rt : ∀ v t σ ρ G H, Res K Z G H σ ρ v t → G.n ≤ n + c → E.rt t ρ → Dn.rt v H
  bk : ∀ σ ρ G H, StOk K Z G H σ ρ → G.n ≤ n + c → E.bk ρ → Dn.bk σ H
  ct : ∀ σ ρ G H, StOk K Z G H σ ρ → G.n ≤ n + c → E.ct ρ → Dn.ct σ H
  ex : ∀ C dx fs vs σ ρ G H, StOk K Z G H σ ρ → G.n ≤ n + c → H dx = some (.xd ((fs.map (·.1)).zip vs)) → RepDs K G vs (fs.map (·.2)) → E.ex C fs ρ → wx (.ref C) (some dx) σ H
def liftS (K : PySem.W.Frag) (np : Np) (c : Nat) (W : TSW) : TS := fun Dn σ H => ∃ Z G ρ E, Z.pins.length = np.n ∧ StOk K Z G H σ ρ ∧ G.n + c ≤ LIM ∧ W E ρ ∧ Goes K Z np.wx G.n c E Dn
def WS (X : Cx) (np : Np) (c : Nat) (st : Stmt) (W : TSW) : Prop := PS X st (liftS X.K np c W)
def WSs (X : Cx) (np : Np) (c : Nat) (sts : List Stmt) (W : TSW) : Prop := PSs X sts (liftS X.K np c W)
theorem PS.imp {X : Cx} {st : Stmt} {t t' : TS} (h : PS X st t) (i : ∀ D σ H, t' D σ H → t D σ H) : PS X st t' := ⟨fun pins s σ H D I q => h.run pins s σ H D I (i D σ H q)⟩
theorem PSs.imp {X : Cx} {st : List Stmt} {t t' : TS} (h : PSs X st t) (i : ∀ D σ H, t' D σ H → t D σ H) : PSs X st t' := ⟨fun pins s σ H D I q => h.run pins s σ H D I (i D σ H q)⟩
theorem Goes.sub {K : PySem.W.Frag} {Z : Ctx} {wx : WX} {n c n' c' : Nat} {E : ET} {Dn : Ends} (g : Goes K Z wx n c E Dn) (h : n' + c' ≤ n + c) : Goes K Z wx n' c' E Dn :=
  ⟨fun σ ρ G H s m => g.nx σ ρ G H s (by omega), fun v d σ ρ G H s m => g.rt v d σ ρ G H s (by omega), fun σ ρ G H s m => g.bk σ ρ G H s (by omega), fun σ ρ G H s m => g.ct σ ρ G H s (by omega), fun C dx fs vs σ ρ G H s m => g.ex C dx fs vs σ ρ G H s (by omega)⟩
section
variable {X : Cx} {e : Expr} {st : Stmt} {sts : List Stmt} {pos pos' : Pos} {np : Np} {c ca cb cc : Nat} {w : TW} {wB : TB} {W W' : TSW}
def sNext : TSW := fun E ρ => E.nx ρ
def sSeq (W W' : TSW) : TSW := fun E ρ => W { E with nx := W' E } ρ
def sRet (w : TW) : TSW := fun E ρ => w ρ fun t => match t with
  | .fr d => E.rt (.fr d) ρ
  | _ => False
def sRetN : TSW := fun E ρ => E.rt (.fr .non) ρ
def sDrop (w : TW) : TSW := fun E ρ => w ρ fun _ => E.nx ρ
def sIf (u : TB) (W W' : TSW) : TSW := fun E ρ => u ρ fun k => if k = true then W E ρ else W' E ρ
def asD (P : D → Prop) : T → Prop
  | .fr d => P d
  | _ => False
/-- name = e -/
def sSet (i : Nat) (w : TW) : TSW := fun E ρ => w ρ (asD fun d => E.nx (ρ.set i (some (.fr d))))
theorem isD {K : PySem.W.Frag} {G : Gh} {H : Hp} {v : V} {t : T} {f : Fps} {P : D → Prop} (r : RepT K G H v t f) (h : asD P t) : ∃ d, t = .fr d ∧ RepD K G v d ∧ P d := by
  cases t with
  | fr d => exact ⟨d, rfl, r.d.1, h⟩
  | _ => exact h.elim
theorem wss_nil : WSs X np 0 [] sNext := PSs.imp pss_nil fun D σ H ⟨Z, G, ρ, E, hZ, s, hn, hw, g⟩ => g.nx σ ρ G H s (Nat.le_add_right _ _) hw
theorem wss_one (h : WS X np c st W) : WSs X np c [st] W := pss_one h
theorem wss_cons (h : WS X np ca st W) (h' : WSs X np cb sts W') : WSs X np (ca + cb) (st :: sts) (sSeq W W') := PSs.imp (pss_cons h h') fun D σ H ⟨Z, G, ρ, E, hZ, s, hn, hw, g⟩ =>
  ⟨Z, G, ρ, { E with nx := W' E }, hZ, s, by omega, hw, ⟨fun σ' ρ' G' H' s' m q => ⟨Z, G', ρ', E, hZ, s', by omega, q, g.sub (by omega)⟩, fun v d σ' ρ' G' H' s' m => g.rt v d σ' ρ' G' H' s' (by omega), fun σ' ρ' G' H' s' m => g.bk σ' ρ' G' H' s' (by omega), fun σ' ρ' G' H' s' m => g.ct σ' ρ' G' H' s' (by omega), fun C dx fs vs σ' ρ' G' H' s' m => g.ex C dx fs vs σ' ρ' G' H' s' (by omega)⟩⟩
theorem ws_never : WS X np 0 st fun _ _ => False := PS.imp ps_never fun D σ H ⟨_, _, _, _, _, _, _, hw, _⟩ => hw.elim
theorem wss_never : WSs X np 0 sts fun _ _ => False := PSs.imp pss_never fun D σ H ⟨_, _, _, _, _, _, _, hw, _⟩ => hw.elim
theorem ws_pass : WS X np 0 (.Pass pos) sNext := PS.imp ps_pass fun D σ H ⟨Z, G, ρ, E, hZ, s, hn, hw, g⟩ => g.nx σ ρ G H s (Nat.le_add_right _ _) hw
def sBreak : TSW := fun E ρ => E.bk ρ
def sCont : TSW := fun E ρ => E.ct ρ
theorem ws_break : WS X np 0 (.Break pos) sBreak := PS.imp ps_break fun D σ H ⟨Z, G, ρ, E, hZ, s, hn, hw, g⟩ => g.bk σ ρ G H s (Nat.le_add_right _ _) hw
theorem ws_continue : WS X np 0 (.Continue pos) sCont := PS.imp ps_continue fun D σ H ⟨Z, G, ρ, E, hZ, s, hn, hw, g⟩ => g.ct σ ρ G H s (Nat.le_add_right _ _) hw
/-- an expression, evaluated in a state -/
theorem StOk.ev {K : PySem.W.Frag} {Z : Ctx} {G : Gh} {H : Hp} {σ : L2.St} {ρ : Rho} {P : T → Prop} {Q : VK} (s : StOk K Z G H σ ρ) (hn : G.n + c ≤ LIM) (hw : w ρ P) (k : ∀ v t f G' H', StOk K Z G' H' σ ρ → Ext c G H G' H' → RepT K G' H' v t f → P t → Q v H') : liftE K c w σ H Q := by
  obtain ⟨fp, r, n, m, l⟩ := s.rep
  exact ⟨G, ρ, fp, P, s.hd, r, hn, hw, fun v t f G' H' x r' f' lk p => k v t f G' H' (s.ext x) x r' p⟩
theorem StOk.evT {K : PySem.W.Frag} {Z : Ctx} {G : Gh} {H : Hp} {σ : L2.St} {ρ : Rho} {P : Bool → Prop} {Q : Bool → Hp → Prop} (s : StOk K Z G H σ ρ) (hn : G.n + c ≤ LIM) (hw : wB ρ P) (k : ∀ b G' H', StOk K Z G' H' σ ρ → Ext c G H G' H' → P b → Q b H') : liftT K c wB σ H Q := by
  obtain ⟨fp, r, n, m, l⟩ := s.rep
  exact ⟨G, ρ, fp, P, s.hd, r, hn, hw, fun b G' H' x lk p => k b G' H' (s.ext x) x p⟩
theorem ws_expr (he : WE X c e w) (hs : swapsWith e none pos.line X.env = pure false := by rfl) : WS X np c (.Expr e pos) (sDrop w) := PS.imp (ps_expr he hs) fun D σ H ⟨Z, G, ρ, E, hZ, s, hn, hw, g⟩ =>
  s.ev hn hw fun v t f G' H' s' x r p => g.nx σ ρ G' H' s' x.hi p
theorem ws_ret (he : WE X c e w) : WS X np c (.Return (some e) pos) (sRet w) := PS.imp (ps_ret he) fun D σ H ⟨Z, G, ρ, E, hZ, s, hn, hw, g⟩ =>
  s.ev hn hw fun v t f G' H' s' x r p => by
    cases t with
    | fr d => exact g.rt v _ σ ρ G' H' (Res.ofD s' r.d.1) x.hi p
    | _ => exact p.elim
theorem ws_retN : WS X np 0 (.Return none pos) sRetN := PS.imp ps_retN fun D σ H ⟨Z, G, ρ, E, hZ, s, hn, hw, g⟩ => g.rt .non _ σ ρ G H (Res.ofD s .non) (Nat.le_add_right _ _) hw
theorem ws_if {q : Expr} {a b : List Stmt} (hq : WT X cc q wB) (ha : WSs X np ca a W) (hb : WSs X np cb b W') : WS X np (cc + (ca + cb)) (.If q a b pos) (sIf wB W W') := PS.imp (ps_if hq ha hb) fun D σ H ⟨Z, G, ρ, E, hZ, s, hn, hw, g⟩ =>
  s.evT (by omega) hw fun k G' H' s' x p => by
    have := x.hi
    cases k with
    | true => exact iteT ⟨Z, G', ρ, E, hZ, s', by omega, uT p, g.sub (by omega)⟩
    | false => exact iteF ⟨Z, G', ρ, E, hZ, s', by omega, uF p, g.sub (by omega)⟩
theorem ws_set {i : Nat} {x : Str} (hN : X.N.Nodup) (hi : X.N[i]? = some x) (hx : Loc X.env.scope x) (he : WE X c e w) (hs : swapsWith e (some (.Name x pos')) pos.line X.env = pure false := by rfl) (hf : X.fn x = true ∨ X.env.scope.names.lookup x = some .local := by first | exact .inl rfl | exact .inr rfl | assumption) :
    WS X np c (.Assign [.Name x pos'] e pos) (sSet i w) := PS.imp (ps_set hN hi hx he hs hf) fun D σ H ⟨Z, G, ρ, E, hZ, s, hn, hw, g⟩ =>
  s.ev hn hw fun v t f G' H' s' x r p => by
    obtain ⟨d, rfl, rd, p⟩ := isD r p
    exact g.nx _ _ G' H' (s'.setD rd i) x.hi p
end
/-! ### defs -/
mutual
def T.lend : T → T
  | .fr d => .fr d
  | .tup ts => .tup (T.lends ts)
  | .lst _ ts => .lst false (T.lends ts)
  | .dk _ kvs => .dk false (T.lendk kvs)
  | .dt _ kvs => .dt false (T.lendt kvs)
  | .ins _ C fs => .ins false C (T.lendf fs)
def T.lends : List T → List T
  | [] => []
  | t :: ts => t.lend :: T.lends ts
def T.lendk : List (KY × T) → List (KY × T)
  | [] => []
  | (k, t) :: ts => (k, t.lend) :: T.lendk ts
def T.lendt : List (List KY × T) → List (List KY × T)
  | [] => []
  | (k, t) :: ts => (k, t.lend) :: T.lendt ts
def T.lendf : List (Str × T) → List (Str × T)
  | [] => []
  | (k, t) :: ts => (k, t.lend) :: T.lendf ts
end
def unm (f : Fps) : Fps := f.map fun q => (false, q.2)
theorem lendk_1 : ∀ kvs : List (KY × T), (T.lendk kvs).map (toK ·.1) = kvs.map (toK ·.1) ∧ (T.lendk kvs).map (·.2) = T.lends (kvs.map (·.2))
  | [] => ⟨rfl, rfl⟩
  | (k, t) :: ts => by simp [T.lendk, T.lends, lendk_1 ts]
theorem lendt_1 : ∀ kvs : List (List KY × T), (T.lendt kvs).map (·.1.map toK) = kvs.map (·.1.map toK) ∧ (T.lendt kvs).map (·.2) = T.lends (kvs.map (·.2))
  | [] => ⟨rfl, rfl⟩
  | (k, t) :: ts => by have := lendt_1 ts; simp only [T.lendt, T.lends, List.map_cons, this.1, this.2]; exact ⟨trivial, trivial⟩
theorem lendf_1 : ∀ kvs : List (Str × T), (T.lendf kvs).map (·.1) = kvs.map (·.1) ∧ (T.lendf kvs).map (·.2) = T.lends (kvs.map (·.2))
  | [] => ⟨rfl, rfl⟩
  | (k, t) :: ts => by simp [T.lendf, T.lends, lendf_1 ts]
section
variable {K : PySem.W.Frag} {G : Gh} {H : Hp}
mutual
theorem RepT.lend : ∀ {v : V} {t : T} {f : Fps}, RepT K G H v t f → RepT K G H v t.lend (unm f)
  | _, _, _, .fr r => .fr r
  | _, _, _, .tup e r => .tup e (RepTs.lend r)
  | _, _, _, .lst e n r => .lst e n (RepTs.lend r)
  | _, _, _, .dk (kvs := kvs) e n r => .dk (by rw [(lendk_1 kvs).1]; exact e) n (by rw [(lendk_1 kvs).2]; exact RepTs.lend r)
  | _, _, _, .dt (kvs := kvs) e n r => .dt (by rw [(lendt_1 kvs).1]; exact e) n (by rw [(lendt_1 kvs).2]; exact RepTs.lend r)
  | _, _, _, .ins (fs := kvs) e n x nd r => .ins (by rw [(lendf_1 kvs).1]; exact e) n x nd (by rw [(lendf_1 kvs).2]; exact RepTs.lend r)
theorem RepTs.lend : ∀ {vs : List V} {ts : List T} {f : Fps}, RepTs K G H vs ts f → RepTs K G H vs (T.lends ts) (unm f)
  | _, _, _, .nil => .nil
  | _, _, _, .cons (f := f) (g := g) r t => by
    have e : unm (f ++ g) = unm f ++ unm g := List.map_append
    rw [e]
    exact .cons (RepT.lend r) (RepTs.lend t)
end
theorem unm_lent (f : Fps) : Lent (unm f) := fun q hq => by
  obtain ⟨p, _, rfl⟩ := List.mem_map.mp hq
  rfl
end
/-- the promise of a def that changes nothing: from the arguments' trees to the result's -/
def spP (K : PySem.W.Frag) (n c : Nat) (S : List T → (D → Prop) → Prop) : Sp := fun vs H Q _ => ∃ G ts fp P, Holds G H ∧ RepTs K G H vs ts fp ∧ Lent fp ∧ ts.length = n ∧ G.n + c ≤ LIM ∧ S ts P ∧
  ∀ v d G' H', Ext c G H G' H' → RepD K G' v d → P d → Q v H'
theorem spP_len {K : PySem.W.Frag} {n c : Nat} {S : List T → (D → Prop) → Prop} {vs : List V} {H : Hp} {Q : VK} {E : XK} (h : spP K n c S vs H Q E) : vs.length = n := by
  obtain ⟨G, ts, fp, P, hd, r, _, l, _⟩ := h
  rw [r.length, l]
def wCall (n : Nat) (S : List T → (D → Prop) → Prop) (ws : TWs) : TW := fun ρ P => ws ρ fun ts => ts.length = n ∧ S (T.lends ts) fun d => P (.fr d)
theorem lends_len : ∀ ts : List T, (T.lends ts).length = ts.length
  | [] => rfl
  | _ :: ts => by simp [T.lends, lends_len ts]
section
variable {X : Cx} {e : Expr} {es : List Expr} {pos : Pos} {c n : Nat} {ws : TWs}
theorem impCall {K : PySem.W.Frag} {k : Nat} {S : List T → (D → Prop) → Prop} {σ : L2.St} {H : Hp} {Q : VK} {E : XK} (h : liftE K (c + k) (wCall n S ws) σ H Q) : tCall (spP K n k S) [] E (liftA K c ws) σ H fun v H1 => LenOk K H1 → Q v H1 := by
  obtain ⟨G, ρ, fp, P, hd, rs, hn, hw, kk⟩ := h
  refine ⟨G, ρ, fp, _, hd, rs, by omega, hw, fun vs ts f G1 H1 x1 r1 f1 lk1 hw1 => ?_⟩
  have := x1.hi
  show spP K n k S (vs ++ []) H1 _ E
  rw [List.append_nil]
  refine ⟨G1, T.lends ts, unm f, _, x1.hd, r1.lend, unm_lent f, (lends_len ts).trans hw1.1, by omega, hw1.2, fun v d G2 H2 x2 r2 p lk => ?_⟩
  exact kk v (.fr d) [] G2 H2 (x1.trans x2) (.fr r2) noFp lk p
theorem we_call {CX : CXT} {kk k : Nat} {f : Addr} {fd : FuncData} {ps : List Str} {S : List T → (D → Prop) → Prop} {x : Str} {p : Pos} {E : XK} (F : FnOk X.prog X.w X.K X.mg X.base CX kk f fd ps (spP X.K n k S)) (hr : Room kk X.A) (hg : Gl X x) (hm : X.mg x = some (.ref f)) (hk : PySem.W.keepIn X.K (.ref f) = true) (hb : Binds X.K fd ps []) (hx : Passes CX X E)
    (ha : WA X c (e :: es) ws) (hdb : (x == ("__debug__" : Str)) = false := by decide) (he : starEach (e :: es) X.env = (false, eval e X.env) :: starEach es X.env := by rfl) (hpl : (backTo pos (starEach es X.env)).any (·.1) = false := by rfl) :
    WE X (c + k) (.Call (.Name x p) (e :: es) [] pos) (wCall n S ws) := PE.imp (pe_call F hr hg hm hk hb .nil hx ha hdb he hpl) fun _ _ _ h => impCall h
end
mutual
theorem repT_there {K : PySem.W.Frag} {G : Gh} {H : Hp} : ∀ {v : V} {t : T} {f : Fps}, RepT K G H v t f → ∀ q ∈ f, H q.2 ≠ none
  | _, _, _, .fr r => fun _ z => nomatch z
  | _, _, _, .tup e r => repTs_there r
  | _, _, _, .lst e n r => fun q hq => by
    rcases List.mem_cons.mp hq with rfl | hq
    · show H _ ≠ none; rw [e]; exact fun z => nomatch z
    · exact repTs_there r q hq
  | _, _, _, .dk e n r => fun q hq => by
    rcases List.mem_cons.mp hq with rfl | hq
    · show H _ ≠ none; rw [e]; exact fun z => nomatch z
    · exact repTs_there r q hq
  | _, _, _, .dt e n r => fun q hq => by
    rcases List.mem_cons.mp hq with rfl | hq
    · show H _ ≠ none; rw [e]; exact fun z => nomatch z
    · exact repTs_there r q hq
  | _, _, _, .ins e n x nd r => fun q hq => by
    rcases List.mem_cons.mp hq with rfl | hq
    · show H _ ≠ none; rw [e]; exact fun z => nomatch z
    · rcases List.mem_cons.mp hq with rfl | hq
      · show H _ ≠ none; rw [x]; exact fun z => nomatch z
      · exact repTs_there r q hq
theorem repTs_there {K : PySem.W.Frag} {G : Gh} {H : Hp} : ∀ {vs : List V} {ts : List T} {f : Fps}, RepTs K G H vs ts f → ∀ q ∈ f, H q.2 ≠ none
  | _, _, _, .nil => fun _ z => nomatch z
  | _, _, _, .cons r t => fun q hq => (List.mem_append.mp hq).elim (repT_there r q) (repTs_there t q)
end
def rho (N : Nat) (ts : List T) : Rho := ts.map some ++ List.replicate (N - ts.length) none
theorem repS_start {K : PySem.W.Frag} {G : Gh} {H : Hp} {m : Nat} : ∀ {vs : List V} {ts : List T} {f : Fps}, RepTs K G H vs ts f → RepS K G H (vs.map some ++ List.replicate m none) (ts.map some ++ List.replicate m none) f
  | _, _, _, .nil => by
    show RepS K G H (List.replicate m none) (List.replicate m none) []
    induction m with
    | zero => exact .nil
    | succ m ih => exact .no ih
  | _, _, _, .cons r t => .so r (repS_start t)
/-- THE RULE for a def that changes nothing: its body's reading tells its promise -/
theorem def_ok {P : Program} {w : World} {K : PySem.W.Frag} {mg : Str → Option Value} {base : Heap} {x qual : Str} {params : Arguments} {body : List Stmt} {scope : Scope} {f : Addr} {fd : FuncData} {N ps : List Str} {k n c : Nat} {S : List T → (D → Prop) → Prop} {W : TSW}
    (F : FunD K x qual params body scope [] [] f fd) (Sc : FnScope N ps scope) (hn : n = ps.length)
    (hbody : ∀ (cdv : Value) (A : Around) (outer : List Env) (s : Shared) (H : Hp) (E : XK), Room k (A.deeper (envOfC qual scope s.heap.objs.size f cdv)) → WSs (cxOf CX0 P w K mg base N qual scope f cdv A outer s H E).nox ⟨0, fun _ _ _ _ => False⟩ c body W)
    (hs : ∀ ts Q, ts.length = n → S ts Q → W { nx := fun _ => Q .non, rt := fun t _ => asD Q t } (rho N.length ts)) : FnOk P w K mg base CX0 (k + 1) f fd ps (spP K n c S) := by
  refine F.ok Sc (fun vs H Q E h => (spP_len h).trans hn) fun cdv A outer s H vs Q E hr h => ?_
  obtain ⟨G, ts, fp, Pp, hd, r, lent, hl, hc, hS, kk⟩ := h
  refine ⟨_, (hbody cdv A outer s H E hr).nox, ⟨⟨H, G, []⟩, G, rho N.length ts, _, rfl, ?_, hc, hs ts Pp hl hS, ?_⟩⟩
  · refine ⟨hd, ⟨fp, ?_, ?_, fun a ha => ?_, fun a ha => ?_⟩, fun _ _ e => e, fun _ e z => absurd e z, fun _ _ e _ => e, fun _ z => z, Nat.le_refl _, fun i v t e => by simp at e⟩
    · unfold rho L2.start
      rw [r.length]
      exact repS_start r
    · rw [mines_lent lent]; exact List.nodup_nil
    · exact absurd (lent _ ha) (by simp)
    · exact repTs_there r _ ha
  · have fin : ∀ v d σ ρ G' H', StOk K ⟨H, G, []⟩ G' H' σ ρ → G'.n ≤ G.n + c → RepD K G' v d → Pp d → Q v H' := fun v d σ ρ G' H' s' m r' p =>
      kk v d G' H' ⟨s'.hd, s'.sub, s'.new, fun a o e n => s'.keep a o e n, s'.lo, m⟩ r' p
    exact ⟨fun σ ρ G' H' s' m p => fin .non .non σ ρ G' H' s' m .non p, fun v t σ ρ G' H' s' m p => by
      obtain ⟨fp', f', _, rt, _⟩ := s'.rep
      obtain ⟨d, rfl, rd, p⟩ := isD rt p
      exact fin v d σ ρ G' H' s'.st m rd p, fun _ _ _ _ _ _ z => z.elim, fun _ _ _ _ _ _ z => z.elim, fun _ _ _ _ _ _ _ _ _ _ _ _ z => z.elim⟩
end TL
set_option Elab.async false
set_option linter.all false
set_option maxRecDepth 100000
set_option maxHeartbeats 1000000
/-! TL7: targets, what is walked, comprehensions, for, while. -/
namespace TL
open PySem PySem.Spec PyProof.Rows L2
/-! ### targets -/
mutual
inductive Pat where
  | nm (i : Nat)
  | tu (ps : Pats)
inductive Pats where
  | nil
  | cons (p : Pat) (ps : Pats)
end
def Pats.len : Pats → Nat
  | .nil => 0
  | .cons _ ps => ps.len + 1
def tupEls : T → Option (List T)
  | .fr (.tup ds) => some (ds.map .fr)
  | .tup ts => some ts
  | _ => none
mutual
def bindP : Pat → T → Rho → Option Rho
  | .nm i, t, ρ => some (ρ.set i (some t))
  | .tu ps, t, ρ => match tupEls t with
    | some ts => bindPs ps ts ρ
    | none => none
def bindPs : Pats → List T → Rho → Option Rho
  | .nil, [], ρ => some ρ
  | .cons p ps, t :: ts, ρ => match bindP p t ρ with
    | some ρ' => bindPs ps ts ρ'
    | none => none
  | _, _, _ => none
end
mutual
def patG (K : PySem.W.Frag) : Pat → TG
  | .nm i => gName i
  | .tu ps => gTup K ps.len (patGs K ps)
def patGs (K : PySem.W.Frag) : Pats → TGs
  | .nil => gNil
  | .cons p ps => gCons (patG K p) (patGs K ps)
end
mutual
def Pat.sl : Pat → List Nat
  | .nm i => [i]
  | .tu ps => ps.sls
def Pats.sls : Pats → List Nat
  | .nil => []
  | .cons p ps => p.sl ++ ps.sls
end
theorem wipe_set : ∀ (vs : List Nat) (σ : L2.St) (i : Nat) (o : Option V), i ∈ vs → wipe (σ.set i o) vs = wipe σ vs
  | [], _, _, _, h => nomatch h
  | v :: vs, σ, i, o, h => by
    show (wipe (σ.set i o) vs).set v none = (wipe σ vs).set v none
    by_cases e : i ∈ vs
    · rw [wipe_set vs σ i o e]
    · have ev : i = v := (List.mem_cons.mp h).elim id fun z => absurd z e
      subst ev
      have comm : ∀ (ws : List Nat) (τ : L2.St), i ∉ ws → wipe (τ.set i o) ws = (wipe τ ws).set i o := by
        intro ws
        induction ws with
        | nil => intro _ _; rfl
        | cons w ws ih =>
          intro τ hn
          show (wipe (τ.set i o) ws).set w none = ((wipe τ ws).set w none).set i o
          rw [ih τ (fun z => hn (List.mem_cons_of_mem _ z)), List.set_comm _ _ (fun z => hn (by rw [z]; exact List.mem_cons_self ..))]
      rw [comm vs σ e, List.set_set]
section
variable {K : PySem.W.Frag} {G : Gh} {H : Hp}
/-- what a target makes of a state -/
structure Bound (σ σ' : L2.St) (ρ ρ' : Rho) (f fp fp' : Fps) (sl : List Nat) : Prop where
  pin : Lent f → ∀ (j : Nat) (t : T), look ρ' j = some t → t.mine = true → look ρ j = some t ∧ σ'[j]? = σ[j]?
  sub : ∀ q ∈ fp', q ∈ fp ∨ q ∈ f
  mine : Lent f → (mines fp').Sublist (mines fp)
  wp : ∀ vs, (∀ i ∈ sl, i ∈ vs) → wipe σ' vs = wipe σ vs
theorem pin_set {σ : L2.St} {ρ : Rho} {v : V} {t : T} {f : Fps} (r : RepT K G H v t f) (l : Lent f) (i j : Nat) (u : T) (e2 : look (ρ.set i (some t)) j = some u) (e3 : u.mine = true) : look ρ j = some u ∧ (σ.set i (some v))[j]? = σ[j]? := by
  by_cases h : i = j
  · subst h
    rcases look_set_eq ρ i (some t) with q | q
    · rw [q] at e2; cases e2
      rw [mine_lent r l] at e3; cases e3
    · rw [q] at e2; cases e2
  · rw [look_set_ne ρ i j _ h] at e2
    exact ⟨e2, List.getElem?_set_ne h⟩
theorem tupEls_ok {v : V} {t : T} {f : Fps} {ts : List T} (hd : Holds G H) (r : RepT K G H v t f) (e : tupEls t = some ts) : ∃ a vs g, v = .ref a ∧ SqT K H a vs ∧ RepTs K G H vs ts g ∧ ∀ q ∈ g, q ∈ f := by
  cases t with
  | fr d =>
    obtain ⟨r9, rfl⟩ := r.d
    cases d with
    | tup ds =>
      cases e
      obtain ⟨a, vs, rfl, h1, h2, h3⟩ := r9.tup' hd
      exact ⟨a, vs, [], rfl, SqT.of h1, h3.ts, fun _ z => nomatch z⟩
    | _ => cases e
  | tup us =>
    cases e
    cases r with | tup h r => exact ⟨_, _, f, rfl, SqT.of (hd.ho _ _ h).tup, r, fun _ z => z⟩
  | _ => cases e
theorem Lent.sub {f g : Fps} (h : Lent f) (s : ∀ q ∈ g, q ∈ f) : Lent g := fun q hq => h q (s q hq)
mutual
theorem bind_ok (hd : Holds G H) : ∀ (p : Pat) {v : V} {t : T} {f : Fps} {σ : L2.St} {ρ ρ' : Rho} {fp : Fps} {Q : L2.St → Hp → Prop}, RepT K G H v t f → RepS K G H σ ρ fp → bindP p t ρ = some ρ' →
    (∀ σ' fp', RepS K G H σ' ρ' fp' → Bound σ σ' ρ ρ' f fp fp' p.sl → Q σ' H) → patG K p v σ H Q
  | .nm i, v, t, f, σ, ρ, ρ', fp, Q, r, s, e, k => by
    cases e
    obtain ⟨fp', r1, h1, h2⟩ := RepS.set r i s
    exact k _ fp' r1 ⟨fun l j u e2 e3 => pin_set r l i j u e2 e3, h1, h2, fun vs h => wipe_set vs σ i _ (h i (List.mem_cons_self ..))⟩
  | .tu ps, v, t, f, σ, ρ, ρ', fp, Q, r, s, e, k => by
    unfold bindP at e
    cases h : tupEls t with
    | none => rw [h] at e; cases e
    | some ts =>
      rw [h] at e
      obtain ⟨a, vs, g, rfl, hs, rt, sub⟩ := tupEls_ok hd r h
      have hl : vs.length = ps.len := by
        rw [rt.length]
        clear rt hs
        have : ∀ (ps : Pats) (ts : List T) (ρ : Rho), bindPs ps ts ρ = some ρ' → ts.length = ps.len := fun ps => by
          intro ts
          induction ts generalizing ps with
          | nil => intro ρ e; cases ps with
            | nil => rfl
            | cons p ps => cases e
          | cons t ts ih => intro ρ e; cases ps with
            | nil => cases e
            | cons p ps =>
              unfold bindPs at e
              cases h2 : bindP p t ρ with
              | none => rw [h2] at e; cases e
              | some ρ2 => rw [h2] at e; simp [Pats.len, ih ps ρ2 e]
        exact this ps ts ρ e
      exact ⟨a, vs, rfl, hs, hl, binds_ok hd ps rt s e fun σ' fp' r1 b => k σ' fp' r1 ⟨fun l => b.pin (l.sub sub), fun q hq => (b.sub q hq).imp id (sub q), fun l => b.mine (l.sub sub), b.wp⟩⟩
theorem binds_ok (hd : Holds G H) : ∀ (ps : Pats) {vs : List V} {ts : List T} {f : Fps} {σ : L2.St} {ρ ρ' : Rho} {fp : Fps} {Q : L2.St → Hp → Prop}, RepTs K G H vs ts f → RepS K G H σ ρ fp → bindPs ps ts ρ = some ρ' →
    (∀ σ' fp', RepS K G H σ' ρ' fp' → Bound σ σ' ρ ρ' f fp fp' ps.sls → Q σ' H) → patGs K ps vs σ H Q
  | .nil, vs, ts, f, σ, ρ, ρ', fp, Q, r, s, e, k => by
    cases ts with
    | nil =>
      cases e
      cases r
      exact ⟨rfl, k σ fp s ⟨fun _ _ _ e _ => ⟨e, rfl⟩, fun q hq => .inl hq, fun _ => List.Sublist.refl _, fun _ _ => rfl⟩⟩
    | cons t ts => cases e
  | .cons p ps, vs, ts, f, σ, ρ, ρ', fp, Q, r, s, e, k => by
    cases ts with
    | nil => cases e
    | cons t ts =>
      unfold bindPs at e
      cases h : bindP p t ρ with
      | none => rw [h] at e; cases e
      | some ρ2 =>
        rw [h] at e
        cases r with
        | cons r rr =>
          refine ⟨_, _, rfl, bind_ok hd p r s h fun σ1 fp1 r1 b1 => binds_ok hd ps rr r1 e fun σ2 fp2 r2 b2 => k σ2 fp2 r2 ⟨fun l j u e2 e3 => ?_, fun q hq => ?_, fun l => ?_, fun vs hv => ?_⟩⟩
          · obtain ⟨e4, e5⟩ := b2.pin (l.sub fun q hq => List.mem_append_right _ hq) j u e2 e3
            obtain ⟨e6, e7⟩ := b1.pin (l.sub fun q hq => List.mem_append_left _ hq) j u e4 e3
            exact ⟨e6, e5.trans e7⟩
          · rcases b2.sub q hq with z | z
            · exact (b1.sub q z).imp id (List.mem_append_left _)
            · exact .inr (List.mem_append_right _ z)
          · exact (b2.mine (l.sub fun q hq => List.mem_append_right _ hq)).trans (b1.mine (l.sub fun q hq => List.mem_append_left _ hq))
          · rw [b2.wp vs fun i hi => hv i (List.mem_append_right _ hi), b1.wp vs fun i hi => hv i (List.mem_append_left _ hi)]
end
/-! ### nothing of it is ours -/
mutual
def T.lentB : T → Bool
  | .fr _ => true
  | .tup ts => T.lentBs ts
  | .lst m ts => !m && T.lentBs ts
  | .dk m kvs => !m && T.lentBk kvs
  | .dt m kvs => !m && T.lentBt kvs
  | .ins m _ fs => !m && T.lentBf fs
def T.lentBs : List T → Bool
  | [] => true
  | t :: ts => t.lentB && T.lentBs ts
def T.lentBk : List (KY × T) → Bool
  | [] => true
  | (_, t) :: ts => t.lentB && T.lentBk ts
def T.lentBt : List (List KY × T) → Bool
  | [] => true
  | (_, t) :: ts => t.lentB && T.lentBt ts
def T.lentBf : List (Str × T) → Bool
  | [] => true
  | (_, t) :: ts => t.lentB && T.lentBf ts
end
theorem lentBk_1 : ∀ kvs : List (KY × T), T.lentBk kvs = T.lentBs (kvs.map (·.2))
  | [] => rfl
  | (k, t) :: ts => by simp [T.lentBk, T.lentBs, lentBk_1 ts]
theorem lentBt_1 : ∀ kvs : List (List KY × T), T.lentBt kvs = T.lentBs (kvs.map (·.2))
  | [] => rfl
  | (k, t) :: ts => by simp [T.lentBt, T.lentBs, lentBt_1 ts]
theorem lentBf_1 : ∀ kvs : List (Str × T), T.lentBf kvs = T.lentBs (kvs.map (·.2))
  | [] => rfl
  | (k, t) :: ts => by simp [T.lentBf, T.lentBs, lentBf_1 ts]
theorem Lent.cons {a : Addr} {f : Fps} {m : Bool} (hm : (!m) = true) (h : Lent f) : Lent ((m, a) :: f) := fun q hq => by
  rcases List.mem_cons.mp hq with rfl | hq
  · simpa using hm
  · exact h q hq
mutual
theorem lentB_ok : ∀ {v : V} {t : T} {f : Fps}, RepT K G H v t f → t.lentB = true → Lent f
  | _, _, _, .fr r, _ => fun _ z => nomatch z
  | _, _, _, .tup e r, h => lentBs_ok r h
  | _, _, _, .lst e n r, h => by
    have q := Bool.and_eq_true_iff.mp (show (!_ && T.lentBs _) = true from h)
    exact .cons q.1 (lentBs_ok r q.2)
  | _, _, _, .dk (kvs := kvs) e n r, h => by
    have q := Bool.and_eq_true_iff.mp (show (!_ && T.lentBk _) = true from h)
    exact .cons q.1 (lentBs_ok r (by rw [← lentBk_1]; exact q.2))
  | _, _, _, .dt (kvs := kvs) e n r, h => by
    have q := Bool.and_eq_true_iff.mp (show (!_ && T.lentBt _) = true from h)
    exact .cons q.1 (lentBs_ok r (by rw [← lentBt_1]; exact q.2))
  | _, _, _, .ins (fs := kvs) e n x nd r, h => by
    have q := Bool.and_eq_true_iff.mp (show (!_ && T.lentBf _) = true from h)
    exact .cons q.1 (.cons q.1 (lentBs_ok r (by rw [← lentBf_1]; exact q.2)))
theorem lentBs_ok : ∀ {vs : List V} {ts : List T} {f : Fps}, RepTs K G H vs ts f → T.lentBs ts = true → Lent f
  | _, _, _, .nil, _ => fun _ z => nomatch z
  | _, _, _, .cons r t, h => by
    have q := Bool.and_eq_true_iff.mp (show (_ && T.lentBs _) = true from h)
    exact fun x hx => (List.mem_append.mp hx).elim (lentB_ok r q.1 x) (lentBs_ok t q.2 x)
end
end
/-! ### what is walked -/
section
variable {X : Cx} {tg e e2 : Expr} {es : List Expr} {c N : Nat} {w w' : TW} {ws : TWs}
def iSeq (K : PySem.W.Frag) (tl : TE) : TI := fun σ H R => tl σ H fun x H1 => ∃ a, x = .ref a ∧ (((∃ xs, SqL K H1 a xs) ∧ R (Itl K a) H1) ∨ ((∃ xs, SqT K H1 a xs) ∧ R (Itt K a) H1))
theorem pi_seq {tl : TE} (hl : PE X e tl) : PI X tg e (iSeq X.K tl) := by
  refine ⟨fun pins s σ H R I h => ?_⟩
  refine thn (hl.run pins s σ H _ I h) fun v s1 ⟨x, H1, I1, r1, q1⟩ => ?_
  obtain ⟨a, e, q⟩ := q1
  subst e
  cases r1
  rcases q with ⟨⟨xs, hq⟩, q⟩ | ⟨⟨xs, hq⟩, q⟩
  · obtain ⟨its, rv, p, hz⟩ := I1.list hq
    refine wpAny_pyIter_list p.isList ?_
    refine ⟨s1.heap.objs.size, [s1.heap.objs.size], _, _, H1, rfl, I1.kept (t' := s1.toks) fun b o e => Heap.get?_push_of_some _ e, turn_list a _, ⟨_, Heap.get?_push_size _ rfl, rfl, rfl⟩, fun b hb => ?_, q⟩
    have e : b = s1.heap.objs.size := by simpa using hb
    subst e
    exact I1.fpOk (Nat.le_refl _) (I1.hok.fresh (Nat.le_refl _))
  · obtain ⟨its, rv, p, hz⟩ := I1.tuple hq
    refine wpAny_pyIter_tuple (show s1.heap.IsTuple a its.toArray from p) ?_
    refine ⟨s1.heap.objs.size, [s1.heap.objs.size], _, _, H1, rfl, I1.kept (t' := s1.toks) fun b o e => Heap.get?_push_of_some _ e, turn_tuple a _, ⟨_, Heap.get?_push_size _ rfl, rfl, rfl⟩, fun b hb => ?_, q⟩
    have e : b = s1.heap.objs.size := by simpa using hb
    subst e
    exact I1.fpOk (Nat.le_refl _) (I1.hok.fresh (Nat.le_refl _))
def wiSeq (w : TW) : TWI := fun ρ P => w ρ fun t => match elems t with
  | some (_, ts) => P t.lentB ts
  | none => False
theorem elems_lent {t : T} {l : Bool} {ts : List T} (e : elems t = some (l, ts)) (h : t.lentB = true) : T.lentBs ts = true := by
  have fr : ∀ ds : List D, T.lentBs (ds.map .fr) = true := fun ds => by
    induction ds with
    | nil => rfl
    | cons d ds ih => exact ih
  have fi : ∀ ds : List Int, T.lentBs (ds.map fun i => .fr (.int i)) = true := fun ds => by
    induction ds with
    | nil => rfl
    | cons d ds ih => exact ih
  cases t with
  | fr d =>
    cases d <;> cases e
    · exact fr _
    · exact fr _
    · exact fi _
  | tup us => cases e; exact h
  | lst m us => cases e; exact (Bool.and_eq_true_iff.mp (show (!_ && T.lentBs _) = true from h)).2
  | _ => cases e
/-- .. at every later time -/
theorem elems_at {K : PySem.W.Frag} {G : Gh} {H : Hp} {v : V} {t : T} {f : Fps} {l : Bool} {ts : List T} (hd : Holds G H) (r : RepT K G H v t f) (e : elems t = some (l, ts)) :
    ∃ a vs, v = .ref a ∧ vs.length = ts.length ∧ ∀ (Kp : Addr → Prop) (G2 : Gh) (H2 : Hp), (∀ q ∈ f, Kp q.2) → Later Kp G H G2 H2 → (if l = true then SqL K H2 a vs else SqT K H2 a vs) ∧ ∃ g, RepTs K G2 H2 vs ts g ∧ ∀ q ∈ g, q ∈ f := by
  cases t with
  | fr d =>
    obtain ⟨r9, rfl⟩ := r.d
    cases d with
    | lst ds =>
      cases e
      obtain ⟨a, vs, rfl, h1, h2, h3⟩ := r9.lst' hd
      exact ⟨a, vs, rfl, by rw [h3.length, List.length_map], fun Kp G2 H2 hk lt => ⟨SqL.of (lt.hd.ho _ _ (lt.sub _ _ h2)).lst, [], (h3.mono lt.sub).ts, noFp⟩⟩
    | tup ds =>
      cases e
      obtain ⟨a, vs, rfl, h1, h2, h3⟩ := r9.tup' hd
      exact ⟨a, vs, rfl, by rw [h3.length, List.length_map], fun Kp G2 H2 hk lt => ⟨SqT.of (lt.hd.ho _ _ (lt.sub _ _ h2)).tup, [], (h3.mono lt.sub).ts, noFp⟩⟩
    | scr ns =>
      cases e
      cases r9 with
      | scr h => exact ⟨_, ns.map .int, rfl, by simp, fun Kp G2 H2 hk lt => ⟨h.elim (fun q => .inl (lt.hd.scr _ _ (lt.sub _ _ q))) fun q => .inr q, [], ints_ts, noFp⟩⟩
    | _ => cases e
  | tup us =>
    cases e
    cases r with | tup h r => exact ⟨_, _, rfl, r.length, fun Kp G2 H2 hk lt => ⟨SqT.of (lt.hd.ho _ _ (lt.sub _ _ h)).tup, f, r.later lt hk, fun _ z => z⟩⟩
  | lst m us =>
    cases e
    cases r with | lst h n r => exact ⟨_, _, rfl, r.length, fun Kp G2 H2 hk lt => ⟨SqL.of (lt.keep _ _ (hk _ (List.mem_cons_self ..)) h n).1, _, r.later lt fun q hq => hk q (List.mem_cons_of_mem _ hq), fun _ z => List.mem_cons_of_mem _ z⟩⟩
  | _ => cases e
theorem Later.refl {Kp : Addr → Prop} {G : Gh} {H : Hp} (hd : Holds G H) : Later Kp G H G H := ⟨hd, fun _ _ e => e, fun _ _ _ e n => ⟨e, n⟩⟩
theorem Ext.refl' {G : Gh} {H : Hp} (hd : Holds G H) : Ext 0 G H G H := Ext.refl hd
/-- what is walked, by its state behind: a list or a tuple -/
theorem wi_seq (he : WE X c e w) : WI X c sizeLine tg e (wiSeq w) := PI.imp (pi_seq he) fun σ H R ⟨G, ρ, fp, P, hd, rs, hn, hw, k⟩ => by
  refine ⟨G, ρ, fp, _, hd, rs, hn, hw, fun v t f G1 H1 x1 r1 f1 lk hw1 => ?_⟩
  cases he : elems t with
  | none => rw [he] at hw1; exact hw1.elim
  | some q =>
    obtain ⟨l, ts⟩ := q
    rw [he] at hw1
    obtain ⟨a, vs, rfl, hl, st⟩ := elems_at x1.hd r1 he
    have now := st (fun _ => True) G1 H1 (fun _ _ => trivial) (.refl x1.hd)
    have hz : ts.length ≤ sizeLine := elems_len lk x1.hd r1 he
    refine ⟨a, rfl, ?_⟩
    cases l with
    | true =>
      refine .inl ⟨⟨vs, now.1⟩, fun lk2 => k (Itl X.K a) t.lentB ts f (fun H => SqL X.K H a vs) (YAt vs) G1 H1 x1 f1 (fun h => lentB_ok r1 h) hz (hl ▸ walk_list) (fun Kp G2 H2 hk lt => ?_) hw1⟩
      obtain ⟨h1, g, r2, s2⟩ := st Kp G2 H2 hk lt
      refine ⟨h1, fun i x H3 y => ?_⟩
      obtain ⟨rfl, y⟩ := y
      have hi : i < ts.length := by rw [← hl]; exact (List.getElem?_eq_some_iff.mp y).1
      obtain ⟨v2, g2, e2, r3, s3⟩ := r2.get (List.getElem?_eq_getElem hi)
      rw [y] at e2; cases e2
      exact ⟨_, g2, G2, List.getElem?_eq_getElem hi, Ext.refl lt.hd, r3, fun q hq => s2 q (s3 q hq)⟩
    | false =>
      refine .inr ⟨⟨vs, now.1⟩, fun lk2 => k (Itt X.K a) t.lentB ts f (fun H => SqT X.K H a vs) (YAt vs) G1 H1 x1 f1 (fun h => lentB_ok r1 h) hz (hl ▸ walk_tup) (fun Kp G2 H2 hk lt => ?_) hw1⟩
      obtain ⟨h1, g, r2, s2⟩ := st Kp G2 H2 hk lt
      refine ⟨h1, fun i x H3 y => ?_⟩
      obtain ⟨rfl, y⟩ := y
      have hi : i < ts.length := by rw [← hl]; exact (List.getElem?_eq_some_iff.mp y).1
      obtain ⟨v2, g2, e2, r3, s3⟩ := r2.get (List.getElem?_eq_getElem hi)
      rw [y] at e2; cases e2
      exact ⟨_, g2, G2, List.getElem?_eq_getElem hi, Ext.refl lt.hd, r3, fun q hq => s2 q (s3 q hq)⟩
/-- a text, sign by sign -/
def wiStr (w : TW) : TWI := fun ρ P => w ρ fun t => match t with
  | .fr (.str l) => P true (l.map fun c => .fr (.str [c]))
  | _ => False
theorem wi_str (he : WE X c e w) : WI X c sizeLine tg e (wiStr w) := PI.imp (pi_str he) fun σ H R ⟨G, ρ, fp, P, hd, rs, hn, hw, k⟩ => by
  refine ⟨G, ρ, fp, _, hd, rs, hn, hw, fun v t f G1 H1 x1 r1 f1 lk hw1 => ?_⟩
  cases t with
  | fr d =>
    cases d with
    | str l =>
      obtain ⟨x, rfl, e1, c1, z1⟩ := r1.d.1.str'
      have e2 : x.cps.size = (l.map fun c => T.fr (.str [c])).length := by rw [List.length_map, ← e1]; simp [tl]
      refine ⟨x, rfl, fun lk2 => k (Its x) true _ [] (fun _ => True) _ G1 H1 x1 noFp (fun _ _ z => nomatch z) (by rw [List.length_map]; exact z1) (e2 ▸ walk_str) (fun Kp G2 H2 hk lt => ⟨trivial, fun i x H3 y => ?_⟩) hw1⟩
      obtain ⟨rfl, c, hc, rfl⟩ := y
      have hc2 : l[i]? = some c := by rw [← e1]; simpa [tl] using hc
      refine ⟨.fr (.str [c]), [], G2, by rw [List.getElem?_map, hc2]; rfl, Ext.refl lt.hd, .fr (.str rfl (fun d hd => ?_) (by show 1 ≤ sizeLine; rw [sizeLine_eq]; decide)), noFp⟩
      have : d = c := by simpa using hd
      subst this
      exact c1 d (List.mem_of_getElem? hc2)
    | _ => exact hw1.elim
  | _ => exact hw1.elim
/-- range(n), range(a, b) -/
def upTo (lo : Int) (n : Nat) : List T := (List.range n).map fun (i : Nat) => .fr (.int (lo + (i : Int)))
def wiRng1 (ws : TWs) : TWI := fun ρ P => ws ρ fun ts => match ts with
  | [.fr (.int j)] => -(2 ^ 62) ≤ j ∧ j < 2 ^ 62 ∧ P true (upTo 0 j.toNat)
  | _ => False
def wiRng2 (ws : TWs) : TWI := fun ρ P => ws ρ fun ts => match ts with
  | [.fr (.int i), .fr (.int j)] => (-(2 ^ 62) ≤ i ∧ i < 2 ^ 62 ∧ -(2 ^ 62) ≤ j ∧ j < 2 ^ 62) ∧ P true (upTo i (j - i).toNat)
  | _ => False
theorem upTo_len (lo : Int) (n : Nat) : (upTo lo n).length = n := by simp [upTo]
theorem upTo_get {lo : Int} {n i : Nat} (h : i < n) : (upTo lo n)[i]? = some (.fr (.int (lo + (i : Int)))) := by simp [upTo, h]
theorem rng_fin {K : PySem.W.Frag} {lo : Int} {n : Nat} (Kp : Addr → Prop) (G2 : Gh) (H2 : Hp) {G1 : Gh} {H1 : Hp} (lt : Later Kp G1 H1 G2 H2) : (fun _ : Hp => True) H2 ∧ ∀ i x H3, i < n → YFn (fun i => V.int (lo + (i : Int))) i H2 x H3 → ∃ t g G3, (upTo lo n)[i]? = some t ∧ Ext 0 G2 H2 G3 H3 ∧ RepT K G3 H3 x t g ∧ ∀ q ∈ g, q ∈ ([] : Fps) :=
  ⟨trivial, fun i x H3 hi y => by
    obtain ⟨rfl, rfl⟩ := y
    exact ⟨_, [], G2, upTo_get hi, Ext.refl lt.hd, .fr (.int _), noFp⟩⟩
/-- a walk whose turns are told within its length -/
theorem Walk.in {J : It} {n : Nat} {Gd : Hp → Prop} {Y : Nat → Hp → V → Hp → Prop} (w : Walk J n Gd Y) : Walk J n Gd (fun i H x H' => i < n ∧ Y i H x H') := ⟨w.goes, w.stops, fun i H x H' h g y => ⟨h, w.yields i H x H' h g y⟩⟩
theorem walkTo (lo : Int) (n : Nat) : Walk (Itr lo n) (upTo lo n).length (fun _ => True) (fun i H x H' => i < n ∧ YFn (fun i => V.int (lo + (i : Int))) i H x H') := by
  rw [upTo_len]
  exact Walk.in walk_range
theorem wi_rng1 {a : Expr} {p pos : Pos} (hg : Gl X "range") (hm : X.mg "range" = none) (ha : WA X c [a] ws) (hs : starEach [a] X.env = [(false, eval a X.env)] := by rfl) : WI X c (2 ^ 62) tg (.Call (.Name "range" p) [a] [] pos) (wiRng1 ws) := PI.imp (pi_range1 hg hm ha hs) fun σ H R ⟨G, ρ, fp, P, hd, rs, hn, hw, k⟩ => by
  refine ⟨G, ρ, fp, _, hd, rs, hn, hw, fun vs ts f G1 H1 x1 r1 f1 lk hw1 => ?_⟩
  split at hw1
  · next j =>
    obtain ⟨h1, h2, h3⟩ := hw1
    cases r1 with
    | cons r rr =>
      cases rr
      rw [r.d.1.int']
      refine ⟨j, rfl, h1, h2, fun lk2 => k (Itr 0 j.toNat) true _ [] _ _ G1 H1 x1 noFp (fun _ _ z => nomatch z) (by rw [upTo_len]; omega) (walkTo 0 j.toNat) (fun Kp G2 H2 hk lt => ⟨trivial, fun i x H3 y => ?_⟩) h3⟩
      exact (rng_fin Kp G2 H2 lt).2 i x H3 y.1 y.2
  · exact hw1.elim
theorem wi_rng2 {a b : Expr} {p pos : Pos} (hg : Gl X "range") (hm : X.mg "range" = none) (ha : WA X c [a, b] ws) (hs : starEach [a, b] X.env = [(false, eval a X.env), (false, eval b X.env)] := by rfl) (hs2 : starEach [b] X.env = [(false, eval b X.env)] := by rfl) : WI X c (2 ^ 63) tg (.Call (.Name "range" p) [a, b] [] pos) (wiRng2 ws) := PI.imp (pi_range2 hg hm ha hs hs2) fun σ H R ⟨G, ρ, fp, P, hd, rs, hn, hw, k⟩ => by
  refine ⟨G, ρ, fp, _, hd, rs, hn, hw, fun vs ts f G1 H1 x1 r1 f1 lk hw1 => ?_⟩
  split at hw1
  · next i j =>
    obtain ⟨h1, h3⟩ := hw1
    cases r1 with
    | cons r rr =>
      cases rr with
      | cons r' rr =>
        cases rr
        rw [r.d.1.int', r'.d.1.int']
        refine ⟨i, j, rfl, h1, fun lk2 => k (Itr i (j - i).toNat) true _ [] _ _ G1 H1 x1 noFp (fun _ _ z => nomatch z) (by rw [upTo_len]; omega) (walkTo i (j - i).toNat) (fun Kp G2 H2 hk lt => ⟨trivial, fun i x H3 y => ?_⟩) h3⟩
        exact (rng_fin Kp G2 H2 lt).2 _ x H3 y.1 y.2
  · exact hw1.elim
/-- pairs: enumerate(list), zip(list, list) -/
def pairT : T → T → T
  | .fr a, .fr b => .fr (.tup [a, b])
  | s, t => .tup [s, t]
def enumT : Nat → List T → List T
  | _, [] => []
  | n, t :: ts => pairT (.fr (.int n)) t :: enumT (n + 1) ts
def zipT : List T → List T → List T
  | t :: ts, u :: us => pairT t u :: zipT ts us
  | _, _ => []
theorem enumT_len : ∀ (n : Nat) (ts : List T), (enumT n ts).length = ts.length
  | _, [] => rfl
  | n, t :: ts => by simp [enumT, enumT_len (n + 1) ts]
theorem enumT_get : ∀ (n : Nat) (ts : List T) (i : Nat) (t : T), ts[i]? = some t → (enumT n ts)[i]? = some (pairT (.fr (.int ((n + i : Nat) : Int))) t)
  | _, [], i, t, h => by simp at h
  | n, u :: ts, 0, t, h => by simp at h; subst h; simp [enumT]
  | n, u :: ts, i + 1, t, h => by
    have := enumT_get (n + 1) ts i t (by simpa using h)
    simp only [enumT, List.getElem?_cons_succ]
    rw [this, show n + 1 + i = n + (i + 1) by omega]
theorem zipT_len : ∀ (ts us : List T), (zipT ts us).length = min ts.length us.length
  | [], _ => by simp [zipT]
  | _ :: _, [] => by simp [zipT]
  | t :: ts, u :: us => by simp only [zipT, List.length_cons, zipT_len ts us]; omega
theorem zipT_get : ∀ (ts us : List T) (i : Nat) (t u : T), ts[i]? = some t → us[i]? = some u → (zipT ts us)[i]? = some (pairT t u)
  | [], _, i, t, u, h, _ => by simp at h
  | _ :: _, [], i, t, u, _, h => by simp at h
  | t0 :: ts, u0 :: us, 0, t, u, h, h2 => by simp at h h2; subst h h2; rfl
  | t0 :: ts, u0 :: us, i + 1, t, u, h, h2 => by simpa [zipT] using zipT_get ts us i t u (by simpa using h) (by simpa using h2)
theorem pair_new {K : PySem.W.Frag} {G : Gh} {H : Hp} {x y : V} {s t : T} {f g : Fps} (hd : Holds G H) {p : Addr} (hp : H p = none) (rx : RepT K G H x s f) (ry : RepT K G H y t g) :
    ∃ h G', Ext 0 G H G' (upd H p (.tup [x, y])) ∧ RepT K G' (upd H p (.tup [x, y])) (.ref p) (pairT s t) h ∧ ∀ q ∈ h, q ∈ f ∨ q ∈ g := by
  have x1 := Ext.alloc hd hp (.tup [x, y])
  have gen : RepT K (G.put p (.ho (.tup [x, y]))) (upd H p (.tup [x, y])) (.ref p) (.tup [s, t]) (f ++ (g ++ [])) := .tup Gh.put_same (.cons (rx.ext x1) (.cons (ry.ext x1) .nil))
  have sub : ∀ q ∈ f ++ (g ++ []), q ∈ f ∨ q ∈ g := fun q hq => by simpa using hq
  cases s with
  | fr a =>
    cases t with
    | fr b =>
      refine ⟨[], _, x1, .fr (.tup Gh.put_same (.cons (rx.d.1.ext x1) (.cons (ry.d.1.ext x1) .nil))), noFp2⟩
    | _ => exact ⟨_, _, x1, gen, sub⟩
  | _ => exact ⟨_, _, x1, gen, sub⟩
def wiEnum (ws : TWs) : TWI := fun ρ P => ws ρ fun ts => match ts with
  | [t] => match elems t with
    | some (true, us) => P t.lentB (enumT 0 us)
    | _ => False
  | _ => False
theorem wi_enum {p pos tpos : Pos} {elts : List Expr} {kk : Nat} (hg : Gl X "enumerate") (hm : X.mg "enumerate" = none) (ha : WA X c [e] ws) (hs : starEach [e] X.env = [(false, eval e X.env)] := by rfl) : WI X c sizeLine (.Tuple elts kk tpos) (.Call (.Name "enumerate" p) [e] [] pos) (wiEnum ws) := PI.imp (pi_enum hg hm ha hs) fun σ H R ⟨G, ρ, fp, P, hd, rs, hn, hw, k⟩ => by
  refine ⟨G, ρ, fp, _, hd, rs, hn, hw, fun vs ts f G1 H1 x1 r1 f1 lk hw1 => ?_⟩
  split at hw1
  · next t =>
    split at hw1
    · next us he =>
      cases r1 with
      | cons r rr =>
        cases rr
        obtain ⟨a, vs, rfl, hl, st⟩ := elems_at x1.hd r he
        have now := st (fun _ => True) G1 H1 (fun _ _ => trivial) (.refl x1.hd)
        have hz : us.length ≤ sizeLine := elems_len lk x1.hd r he
        rw [List.append_nil] at f1
        refine ⟨a, vs, rfl, now.1, fun lk2 => k (Ite X.K a) t.lentB _ _ (fun H => SqL X.K H a vs) (YPair (fun i => some (.int (i : Nat))) (fun i => vs[i]?)) G1 H1 x1 f1 (fun h => lentB_ok r h) (by rw [enumT_len]; exact hz) ((show vs.length = (enumT 0 us).length by rw [enumT_len]; exact hl) ▸ walk_enum) (fun Kp G2 H2 hk lt => ?_) hw1⟩
        obtain ⟨h1, g, r2, s2⟩ := st Kp G2 H2 hk lt
        refine ⟨h1, fun i x H3 y => ?_⟩
        obtain ⟨p, x', y', rfl, hp, rfl, ex, ey⟩ := y
        cases ex
        replace ey : vs[i]? = some y' := ey
        have hi : i < us.length := by rw [← hl]; exact (List.getElem?_eq_some_iff.mp ey).1
        obtain ⟨v2, g2, e2, r3, s3⟩ := r2.get (List.getElem?_eq_getElem hi)
        rw [ey] at e2; cases e2
        obtain ⟨h, G3, x3, r4, s4⟩ := pair_new lt.hd hp (.fr (.int (i : Nat)) : RepT X.K G2 H2 (.int (i : Nat)) (.fr (.int (i : Nat))) []) r3
        refine ⟨_, h, G3, ?_, x3, r4, fun q hq => (s4 q hq).elim (fun z => nomatch z) fun z => s2 q (s3 q z)⟩
        have := enumT_get 0 us i _ (List.getElem?_eq_getElem hi)
        simpa using this
    · exact hw1.elim
  · exact hw1.elim
def wiZip (ws : TWs) : TWI := fun ρ P => ws ρ fun ts => match ts with
  | [t, u] => match elems t, elems u with
    | some (true, xs), some (true, ys) => P (t.lentB && u.lentB) (zipT xs ys)
    | _, _ => False
  | _ => False
theorem wi_zip {p pos tpos : Pos} {elts : List Expr} {kk : Nat} (hg : Gl X "zip") (hm : X.mg "zip" = none) (ha : WA X c [e, e2] ws) (hs : starEach [e, e2] X.env = (false, eval e X.env) :: starEach [e2] X.env := by rfl) (hpl : (backTo pos (starEach [e2] X.env)).any (·.1) = false := by rfl) :
    WI X c sizeLine (.Tuple elts kk tpos) (.Call (.Name "zip" p) [e, e2] [] pos) (wiZip ws) := PI.imp (pi_zip hg hm ha hs hpl) fun σ H R ⟨G, ρ, fp, P, hd, rs, hn, hw, k⟩ => by
  refine ⟨G, ρ, fp, _, hd, rs, hn, hw, fun vs ts f G1 H1 x1 r1 f1 lk hw1 => ?_⟩
  split at hw1
  · next t u =>
    split at hw1
    · next xs ys he hf =>
      cases r1 with
      | cons r rr =>
        cases rr with
        | cons r' rr =>
          cases rr
          obtain ⟨a, vs, rfl, hl, st⟩ := elems_at x1.hd r he
          obtain ⟨b, ws, rfl, hl', st'⟩ := elems_at x1.hd r' hf
          have now := st (fun _ => True) G1 H1 (fun _ _ => trivial) (.refl x1.hd)
          have now' := st' (fun _ => True) G1 H1 (fun _ _ => trivial) (.refl x1.hd)
          have hz : xs.length ≤ sizeLine := elems_len lk x1.hd r he
          refine ⟨a, b, vs, ws, rfl, now.1, now'.1, fun lk2 => k (Itz X.K a b) (t.lentB && u.lentB) _ _ (fun H => SqL X.K H a vs ∧ SqL X.K H b ws) (YPair (fun i => vs[i]?) (fun i => ws[i]?)) G1 H1 x1 f1 (fun h => ?_) (by rw [zipT_len]; omega) (walk_zip (by rw [zipT_len, hl, hl'])) (fun Kp G2 H2 hk lt => ?_) hw1⟩
          · have q := Bool.and_eq_true_iff.mp h
            exact fun x hx => (List.mem_append.mp hx).elim (lentB_ok r q.1 x) fun z => (List.mem_append.mp z).elim (lentB_ok r' q.2 x) (fun z => nomatch z)
          · obtain ⟨h1, g, r2, s2⟩ := st Kp G2 H2 (fun q hq => hk q (List.mem_append_left _ hq)) lt
            obtain ⟨h1', g', r2', s2'⟩ := st' Kp G2 H2 (fun q hq => hk q (List.mem_append_right _ (List.mem_append_left _ hq))) lt
            refine ⟨⟨h1, h1'⟩, fun i x H3 y => ?_⟩
            obtain ⟨p, x', y', rfl, hp, rfl, ex, ey⟩ := y
            replace ex : vs[i]? = some x' := ex
            replace ey : ws[i]? = some y' := ey
            have hi : i < xs.length := by rw [← hl]; exact (List.getElem?_eq_some_iff.mp ex).1
            have hi' : i < ys.length := by rw [← hl']; exact (List.getElem?_eq_some_iff.mp ey).1
            obtain ⟨v2, g2, e2, r3, s3⟩ := r2.get (List.getElem?_eq_getElem hi)
            rw [ex] at e2; cases e2
            obtain ⟨v2', g2', e2', r3', s3'⟩ := r2'.get (List.getElem?_eq_getElem hi')
            rw [ey] at e2'; cases e2'
            obtain ⟨h, G3, x3, r4, s4⟩ := pair_new lt.hd hp r3 r3'
            exact ⟨_, h, G3, zipT_get xs ys i _ _ (List.getElem?_eq_getElem hi) (List.getElem?_eq_getElem hi'), x3, r4, fun q hq => (s4 q hq).elim (fun z => List.mem_append_left _ (s2 q (s3 q z))) fun z => List.mem_append_right _ (List.mem_append_left _ (s2' q (s3' q z)))⟩
    · exact hw1.elim
  · exact hw1.elim
end
end TL
set_option Elab.async false
set_option linter.all false
set_option maxRecDepth 100000
set_option maxHeartbeats 1000000
/-! TL8: comprehensions, for, while, unpacking. -/
namespace TL
open PySem PySem.Spec PyProof.Rows L2
/-! ### comprehensions -/
def wipeR (ρ : Rho) : List Nat → Rho
  | [] => ρ
  | v :: vs => (wipeR ρ vs).set v none
theorem RepS.none_set {K : PySem.W.Frag} {G : Gh} {H : Hp} : ∀ {σ : L2.St} {ρ : Rho} {fp : Fps} (i : Nat), RepS K G H σ ρ fp → ∃ fp', RepS K G H (σ.set i none) (ρ.set i none) fp' ∧ ∀ q ∈ fp', q ∈ fp
  | _, _, _, i, .nil => ⟨[], .nil, fun _ z => z⟩
  | _, _, _, 0, .no s => ⟨_, .no s, fun _ z => z⟩
  | _, _, _, 0, .so r0 s => ⟨_, .no s, fun _ z => List.mem_append_right _ z⟩
  | _, _, _, i + 1, .no s => by
    obtain ⟨fp', h1, h2⟩ := RepS.none_set i s
    exact ⟨fp', .no h1, h2⟩
  | _, _, _, i + 1, .so r0 s => by
    obtain ⟨fp', h1, h2⟩ := RepS.none_set i s
    exact ⟨_ ++ fp', .so r0 h1, fun q hq => (List.mem_append.mp hq).elim (fun z => List.mem_append_left _ z) fun z => List.mem_append_right _ (h2 q z)⟩
theorem RepS.wipe {K : PySem.W.Frag} {G : Gh} {H : Hp} {σ : L2.St} {ρ : Rho} {fp : Fps} (r : RepS K G H σ ρ fp) : ∀ vs : List Nat, ∃ fp', RepS K G H (L2.wipe σ vs) (wipeR ρ vs) fp' ∧ ∀ q ∈ fp', q ∈ fp
  | [] => ⟨fp, r, fun _ z => z⟩
  | v :: vs => by
    obtain ⟨fp1, h1, h2⟩ := RepS.wipe r vs
    obtain ⟨fp2, h3, h4⟩ := RepS.none_set v h1
    exact ⟨fp2, h3, fun q hq => h2 q (h4 q hq)⟩
/-- [e for target in it if test]: I tells the list made behind so many turns -/
def wLcG (C : List T → Prop) (vs : List Nat) (p : Pat) (wi : TWI) (wt : TB) (we : TW) : TW := fun ρ P => wi ρ fun _ its => C its ∧ ∃ I : Nat → List D → Prop, I 0 [] ∧
  (∀ i t acc, its[i]? = some t → I i acc → match bindP p t (wipeR ρ vs) with
    | some ρ1 => wt ρ1 fun b => if b = true then we ρ1 (asD fun d => I (i + 1) (acc ++ [d])) else I (i + 1) acc
    | none => False) ∧ ∀ acc, I its.length acc → P (.fr (.lst acc))
abbrev wLc := wLcG fun _ => True
/-- .. over a range: the list's own bound is asked -/
abbrev wLcR := wLcG fun its => its.length ≤ sizeLine
def WTs (X : Cx) (c : Nat) (es : List Expr) (w : TB) : Prop := PTs X es (liftT X.K c w)
section
variable {X : Cx} {e : Expr} {pos : Pos} {np : Np} {c N ci ct ce : Nat} {wi : TWI} {wt : TB} {we : TW} {p : Pat}
theorem wts_nil : WTs X 0 [] fun _ P => P true := by
  refine ⟨fun pins s σ H Q I h => ?_⟩
  obtain ⟨G, ρ, fp, P, hd, rs, hn, hw, k⟩ := h
  exact pts_nil.run pins s σ H Q I (k true G H (Ext.refl hd) (lenOk I) hw)
theorem wts_one (h : WT X c e wt) : WTs X c [e] wt := pts_one h
theorem Ext.trans' {c c' d : Nat} {G G' G'' : Gh} {H H' H'' : Hp} (x : Ext c G H G' H') (y : Ext c' G' H' G'' H'') (h : c + c' ≤ d) : Ext d G H G'' H'' := (x.trans y).more h
/-- an own list changes: what stood ahead of it stays -/
theorem Ext.chg {G G' : Gh} {H H' : Hp} (x : Ext c G H G' H') {a : Addr} (n : H a = none) (g : G'.obj a = none) (pl : ∀ o, H' a = some o → Plain o) (o : HO) : Ext c G H G' (upd H' a o) where
  hd := x.hd.upd g pl o
  sub := x.sub
  new := x.new
  keep := fun b u e n2 => by rw [upd_ne (ne_of_none e n)]; exact x.keep b u e n2
  lo := x.lo
  hi := x.hi
theorem coreLc {K : PySem.W.Frag} {own : List (Str × Nat)} {σ : L2.St} {H : Hp} {Q : VK} {G : Gh} {ρ : Rho} {fp : Fps} {P : T → Prop} (hps : p.sl.all (fun i => (own.map (·.2)).contains i) = true) {C : List T → Prop} (hC : ∀ its : List T, its.length ≤ N → C its → its.length ≤ sizeLine) (hd : Holds G H) (rs : RepS K G H σ ρ fp) (hn : G.n + (ci + N * (ct + ce)) ≤ LIM) (hw : wLcG C (own.map (·.2)) p wi wt we ρ P)
    (k : ∀ v d G' H', Ext (ci + N * (ct + ce)) G H G' H' → RepD K G' v d → P (.fr d) → Q v H') : tLc (liftI K ci N wi) (patG K p) (liftT K ct wt) (liftE K ce we) (own.map (·.2)) σ H Q := by
  refine ⟨G, ρ, fp, _, hd, rs, by omega, hw, fun J fl its f Gd Y G1 H1 x1 f1 ffl hl wk st hw1 => ?_⟩
  obtain ⟨hCi, I, i0, is, id⟩ := hw1
  have hz := hC its hl hCi
  intro D hD
  have hsl : ∀ i ∈ p.sl, i ∈ own.map (·.2) := fun i hi => by simpa using List.all_eq_true.mp hps i hi
  have hgD : G1.obj D = none := x1.hd.free hD
  have x0 := Ext.own x1.hd hD (.lst [])
  -- what holds between two turns
  have hx1 := x1.hi
  refine lc_it wk (fun i H2 => i ≤ its.length ∧ ∃ G2 acc vs, Ext (i * (ct + ce)) G1 H1 G2 H2 ∧ G2.obj D = none ∧ H2 D = some (.lst vs) ∧ RepDs K G2 vs acc ∧ acc.length ≤ i ∧ I i acc) ?_ ?_ ?_ ?_
  · exact ⟨Nat.zero_le _, G1, [], [], x0.more (by omega), hgD, upd_same, .nil, Nat.le_refl _, i0⟩
  · rintro i H2 _ ⟨_, G2, acc, vs, x2, hg2, h2, r2, l2, inv⟩
    exact (st (fun _ => True) G2 H2 (fun _ _ => trivial) (x2.later _)).1
  · rintro i x H2 H3 hi ⟨_, G2, acc, vs, x2, hg2, h2, r2, l2, inv⟩ y
    obtain ⟨t, g, G3, et, x3, rt, sg⟩ := (st (fun _ => True) G2 H2 (fun _ _ => trivial) (x2.later _)).2 i x H3 y
    have h3 := x3.stay h2 hg2
    have step := is i t acc et inv
    cases hb : bindP p t (wipeR ρ (own.map (·.2))) with
    | none => rw [hb] at step; exact step.elim
    | some ρ1 =>
      rw [hb] at step
      have x13 := x2.trans x3
      obtain ⟨fpw, rw1, sw⟩ := (rs.ext (x1.trans x13)).wipe (own.map (·.2))
      refine bind_ok x3.hd p rt rw1 hb fun σ2 fp2 rs2 b2 => ⟨?_, ?_⟩
      · rw [b2.wp _ hsl]
        have : ∀ (l : List Nat) (τ : L2.St), L2.wipe (L2.wipe τ l) l = L2.wipe τ l := by
          intro l τ
          have gen : ∀ (m : List Nat), (∀ i ∈ m, i ∈ l) → L2.wipe (L2.wipe τ m) l = L2.wipe τ l := by
            intro m
            induction m with
            | nil => intro _; rfl
            | cons a m ih =>
              intro h
              show L2.wipe ((L2.wipe τ m).set a none) l = _
              rw [wipe_set l _ a none (h a (List.mem_cons_self ..)), ih fun i hi => h i (List.mem_cons_of_mem _ hi)]
          exact gen l fun _ z => z
        exact this _ _
      · have nb : (i + 1) * (ct + ce) ≤ N * (ct + ce) := Nat.mul_le_mul_right _ (by omega)
        have e1 : (i + 1) * (ct + ce) = i * (ct + ce) + (ct + ce) := Nat.succ_mul _ _
        have h13 := x13.hi
        refine ⟨G3, ρ1, fp2, _, x3.hd, rs2, by omega, step, fun b G4 H4 x4 lk4 p4 => ?_⟩
        have h4 := x4.stay h3.1 h3.2
        have hh4 := x4.hi
        cases b with
        | false =>
          have p4 := uF p4
          refine iteF ?_
          exact ⟨hi, G4, acc, vs, x13.trans' x4 (by omega), h4.2, h4.1, (r2.ext x3).ext x4, by omega, p4⟩
        | true =>
          have p4 := uT p4
          refine iteT ?_
          refine ⟨G4, ρ1, fp2, _, x4.hd, rs2.ext x4, by omega, p4, fun v t2 f2 G5 H5 x5 r5 s5 lk5 p5 => ?_⟩
          obtain ⟨d, rfl, rd, p5⟩ := isD r5 p5
          have h5 := x5.stay h4.1 h4.2
          refine ⟨vs, h5.1, ?_, hi, G5, acc ++ [d], vs ++ [v], ?_, h5.2, upd_same, ((((r2.ext x3).ext x4).ext x5).append (.cons rd .nil)), ?_, p5⟩
          · rw [r2.length]; omega
          · exact ((x13.trans x4).trans' x5 (by omega)).chg hD h5.2 (fun o e => by rw [h5.1] at e; cases e; exact plain_lst) _
          · rw [List.length_append]; show acc.length + 1 ≤ i + 1; omega
  · rintro H2 ⟨_, G2, acc, vs, x2, hg2, h2, r2, l2, inv⟩
    -- the list is made: it stands still from now on
    have fz : Ext (its.length * (ct + ce)) G1 H1 (G2.put D (.ho (.lst vs))) H2 := by
      refine ⟨x2.hd.frz hg2 h2, fun a g e => ?_, fun a e z => ?_, x2.keep, x2.lo, x2.hi⟩
      · have q : a ≠ D := fun z => by subst z; rw [hgD] at e; cases e
        simp only [Gh.put, if_neg q]; exact x2.sub a g e
      · by_cases q : a = D
        · subst q; exact hD
        · simp only [Gh.put, if_neg q] at z; exact x2.new a e z
    have nb : its.length * (ct + ce) ≤ N * (ct + ce) := Nat.mul_le_mul_right _ hl
    refine k (.ref D) (.lst acc) _ H2 (x1.trans' fz (by omega)) (.lst Gh.put_same (r2.mono fun a g e => ?_)) (id acc inv)
    have q : a ≠ D := fun z => by subst z; rw [hg2] at e; cases e
    simp only [Gh.put, if_neg q]; exact e
theorem we_lc {elt tg iter : Expr} {ifs : List Expr} {scope : Scope} {own : List (Str × Nat)} (hc : X.calm = true) (hN : X.N.Nodup) (hi : WI X ci N tg iter wi) (ok : BlkOk X.N X.env.scope scope own)
    (hg : ∀ (s : Shared) (H : Hp) (C : Addr) (cl : List (Str × Addr)) (fp : List Addr), PG (X.blk s H scope (compEnvC scope cl C X.env) fp) tg (patG X.K p)) (ht : ∀ (s : Shared) (H : Hp) (C : Addr) (cl : List (Str × Addr)) (fp : List Addr), WTs (X.blk s H scope (compEnvC scope cl C X.env) fp) ct ifs wt)
    (he : ∀ (s : Shared) (H : Hp) (C : Addr) (cl : List (Str × Addr)) (fp : List Addr), WE (X.blk s H scope (compEnvC scope cl C X.env) fp) ce elt we) (hz : N ≤ sizeLine := by rw [sizeLine_eq]; decide) (hps : p.sl.all (fun i => (own.map (·.2)).contains i) = true := by rfl) (hs : ∀ x, foldedSetIterable iter X.env x = pure x := by intro _; rfl) :
    WE X (ci + N * (ct + ce)) (.ListComp elt [⟨tg, iter, ifs, 0⟩] scope pos) (wLc (own.map (·.2)) p wi wt we) := PE.imp (pe_lc (tt := liftT X.K ct wt) (te := liftE X.K ce we) hc hN hi ok hg ht he hs) fun σ H Q ⟨G, ρ, fp, P, hd, rs, hn, hw, k⟩ =>
  coreLc hps (fun its h _ => Nat.le_trans h hz) hd rs hn hw fun v d G' H' x r p lk => k v (.fr d) [] G' H' x (.fr r) noFp lk p
/-- name = [..] -/
theorem ws_setLc {i : Nat} {y : Str} {py spos : Pos} {elt tg iter : Expr} {ifs : List Expr} {scope : Scope} {own : List (Str × Nat)} (hc : X.calm = true) (hN : X.N.Nodup) (hy : X.N[i]? = some y) (hyl : X.env.scope.names.lookup y = some .local)
    (hsw : swapsWith (.ListComp elt [⟨tg, iter, ifs, 0⟩] scope pos) (some (.Name y py)) spos.line X.env = pure true) (hi : WI X ci N tg iter wi) (ok : BlkOk X.N X.env.scope scope own)
    (hg : ∀ (s : Shared) (H : Hp) (C : Addr) (cl : List (Str × Addr)) (fp : List Addr), PG (X.blk s H scope (compEnvC scope cl C X.env) fp) tg (patG X.K p)) (ht : ∀ (s : Shared) (H : Hp) (C : Addr) (cl : List (Str × Addr)) (fp : List Addr), WTs (X.blk s H scope (compEnvC scope cl C X.env) fp) ct ifs wt)
    (he : ∀ (s : Shared) (H : Hp) (C : Addr) (cl : List (Str × Addr)) (fp : List Addr), WE (X.blk s H scope (compEnvC scope cl C X.env) fp) ce elt we) (hz : N ≤ sizeLine := by rw [sizeLine_eq]; decide) (hps : p.sl.all (fun i => (own.map (·.2)).contains i) = true := by rfl) (hs : ∀ x, foldedSetIterable iter X.env x = pure x := by intro _; rfl) :
    WS X np (ci + N * (ct + ce)) (.Assign [.Name y py] (.ListComp elt [⟨tg, iter, ifs, 0⟩] scope pos) spos) (sSet i (wLc (own.map (·.2)) p wi wt we)) := PS.imp (ps_setLc (tt := liftT X.K ct wt) (te := liftE X.K ce we) hc hN hy hyl hsw hi ok hg ht he hs) fun D σ H ⟨Z, G, ρ, E, hZ, s, hn, hw, g⟩ => by
  obtain ⟨fp, r, n, m, l⟩ := s.rep
  refine coreLc hps (fun its h _ => Nat.le_trans h hz) s.hd r hn hw fun v d G' H' x rd p => ?_
  exact g.nx _ _ G' H' ((s.ext x).setD rd i) x.hi p
theorem we_lcR {elt tg iter : Expr} {ifs : List Expr} {scope : Scope} {own : List (Str × Nat)} (hc : X.calm = true) (hN : X.N.Nodup) (hi : WI X ci N tg iter wi) (ok : BlkOk X.N X.env.scope scope own)
    (hg : ∀ (s : Shared) (H : Hp) (C : Addr) (cl : List (Str × Addr)) (fp : List Addr), PG (X.blk s H scope (compEnvC scope cl C X.env) fp) tg (patG X.K p)) (ht : ∀ (s : Shared) (H : Hp) (C : Addr) (cl : List (Str × Addr)) (fp : List Addr), WTs (X.blk s H scope (compEnvC scope cl C X.env) fp) ct ifs wt)
    (he : ∀ (s : Shared) (H : Hp) (C : Addr) (cl : List (Str × Addr)) (fp : List Addr), WE (X.blk s H scope (compEnvC scope cl C X.env) fp) ce elt we) (hps : p.sl.all (fun i => (own.map (·.2)).contains i) = true := by rfl) (hs : ∀ x, foldedSetIterable iter X.env x = pure x := by intro _; rfl) :
    WE X (ci + N * (ct + ce)) (.ListComp elt [⟨tg, iter, ifs, 0⟩] scope pos) (wLcR (own.map (·.2)) p wi wt we) := PE.imp (pe_lc (tt := liftT X.K ct wt) (te := liftE X.K ce we) hc hN hi ok hg ht he hs) fun σ H Q ⟨G, ρ, fp, P, hd, rs, hn, hw, k⟩ =>
  coreLc hps (fun its _ h => h) hd rs hn hw fun v d G' H' x r p lk => k v (.fr d) [] G' H' x (.fr r) noFp lk p
theorem ws_setLcR {i : Nat} {y : Str} {py spos : Pos} {elt tg iter : Expr} {ifs : List Expr} {scope : Scope} {own : List (Str × Nat)} (hc : X.calm = true) (hN : X.N.Nodup) (hy : X.N[i]? = some y) (hyl : X.env.scope.names.lookup y = some .local)
    (hsw : swapsWith (.ListComp elt [⟨tg, iter, ifs, 0⟩] scope pos) (some (.Name y py)) spos.line X.env = pure true) (hi : WI X ci N tg iter wi) (ok : BlkOk X.N X.env.scope scope own)
    (hg : ∀ (s : Shared) (H : Hp) (C : Addr) (cl : List (Str × Addr)) (fp : List Addr), PG (X.blk s H scope (compEnvC scope cl C X.env) fp) tg (patG X.K p)) (ht : ∀ (s : Shared) (H : Hp) (C : Addr) (cl : List (Str × Addr)) (fp : List Addr), WTs (X.blk s H scope (compEnvC scope cl C X.env) fp) ct ifs wt)
    (he : ∀ (s : Shared) (H : Hp) (C : Addr) (cl : List (Str × Addr)) (fp : List Addr), WE (X.blk s H scope (compEnvC scope cl C X.env) fp) ce elt we) (hps : p.sl.all (fun i => (own.map (·.2)).contains i) = true := by rfl) (hs : ∀ x, foldedSetIterable iter X.env x = pure x := by intro _; rfl) :
    WS X np (ci + N * (ct + ce)) (.Assign [.Name y py] (.ListComp elt [⟨tg, iter, ifs, 0⟩] scope pos) spos) (sSet i (wLcR (own.map (·.2)) p wi wt we)) := PS.imp (ps_setLc (tt := liftT X.K ct wt) (te := liftE X.K ce we) hc hN hy hyl hsw hi ok hg ht he hs) fun D σ H ⟨Z, G, ρ, E, hZ, s, hn, hw, g⟩ => by
  obtain ⟨fp, r, n, m, l⟩ := s.rep
  refine coreLc hps (fun its _ h => h) s.hd r hn hw fun v d G' H' x rd p => ?_
  exact g.nx _ _ G' H' ((s.ext x).setD rd i) x.hi p
/-! ### targets of an assignment -/
def sUnp (p : Pat) (w : TW) : TSW := fun E ρ => w ρ fun t => t.lentB = true ∧ match bindP p t ρ with
  | some ρ' => E.nx ρ'
  | none => False
theorem StOk.bind {K : PySem.W.Frag} {Z : Ctx} {G : Gh} {H : Hp} {σ : L2.St} {ρ ρ' : Rho} {p : Pat} {v : V} {t : T} {f : Fps} {Q : L2.St → Hp → Prop} (s : StOk K Z G H σ ρ) (r : RepT K G H v t f) (lf : Lent f) (hf : ∀ a, (false, a) ∈ f → Z.H0 a ≠ none) (e : bindP p t ρ = some ρ')
    (k : ∀ σ', StOk K Z G H σ' ρ' → Q σ' H) : patG K p v σ H Q := by
  obtain ⟨fp, rs, n, m, l⟩ := s.rep
  refine bind_ok s.hd p r rs e fun σ' fp' r' b => k σ' ⟨s.hd, ⟨fp', r', (b.mine lf).nodup n, fun a ha => ?_, fun a ha => ?_⟩, s.sub, s.new, s.keep, s.there, s.lo, fun j u w e1 e2 e3 => ?_⟩
  · exact (b.sub _ ha).elim (m a) fun z => absurd (lf _ z) (by simp)
  · exact (b.sub _ ha).elim (l a) (hf a)
  · obtain ⟨e4, e5⟩ := b.pin lf j w e2 e3
    rw [e5]; exact s.pin j u w e1 e4 e3
theorem StOk.evL {K : PySem.W.Frag} {c : Nat} {w : TW} {Z : Ctx} {G : Gh} {H : Hp} {σ : L2.St} {ρ : Rho} {P : T → Prop} {Q : VK} (s : StOk K Z G H σ ρ) (hn : G.n + c ≤ LIM) (hw : w ρ P) (k : ∀ v t f G' H', StOk K Z G' H' σ ρ → Ext c G H G' H' → RepT K G' H' v t f → (∀ a, (false, a) ∈ f → Z.H0 a ≠ none) → P t → Q v H') : liftE K c w σ H Q := by
  obtain ⟨fp, r, n, m, l⟩ := s.rep
  exact ⟨G, ρ, fp, P, s.hd, r, hn, hw, fun v t f G' H' x r' f' lk p => k v t f G' H' (s.ext x) x r' (fun a ha => l a (f' _ ha)) p⟩
theorem ws_unp {tg a : Expr} {w : TW} (he : WE X c a w) (hg : PG X tg (patG X.K p)) (hs : swapsWithSole [tg] a pos.line X.env = pure false := by rfl) (hw : swappedStores [tg] a X.env = pure none := by rfl) (h1 : (assignEach [tg] X.env).map (·.2) = [assign tg X.env] := by rfl) :
    WS X np c (.Assign [tg] a pos) (sUnp p w) := PS.imp (ps_asg he hg hs hw h1) fun D σ H ⟨Z, G, ρ, E, hZ, s, hn, hw, g⟩ =>
  s.evL hn hw fun v t f G' H' s' x r hf q => by
    obtain ⟨ql, q⟩ := q
    cases e : bindP p t ρ with
    | none => rw [e] at q; exact q.elim
    | some ρ' =>
      rw [e] at q
      exact s'.bind r (lentB_ok r ql) hf e fun σ' s2 => g.nx σ' ρ' G' H' s2 x.hi q
/-- a, b = e1, e2 -/
def sPar (i j : Nat) (ws : TWs) : TSW := fun E ρ => ws ρ fun ts => match ts with
  | [.fr a, .fr b] => E.nx ((ρ.set i (some (.fr a))).set j (some (.fr b)))
  | _ => False
theorem ws_par {i j : Nat} {x y : Str} {a b : Expr} {ws : TWs} {px py pt : Pos} {kt k2 pt2} (hc : X.calm = true) (hN : X.N.Nodup) (hi : X.N[i]? = some x) (hj : X.N[j]? = some y) (hij : i ≠ j)
    (hx : X.env.scope.names.lookup x = some .local) (hy : X.env.scope.names.lookup y = some .local) (ha : WA X c [a, b] ws)
    (hw : swappedStores [.Tuple [.Name x px, .Name y py] kt pt] (.Tuple [a, b] k2 pt2) X.env = pure (some [x, y]))
    (hs : swapsWithSole [.Tuple [.Name x px, .Name y py] kt pt] (.Tuple [a, b] k2 pt2) pos.line X.env = pure false := by rfl) :
    WS X np c (.Assign [.Tuple [.Name x px, .Name y py] kt pt] (.Tuple [a, b] k2 pt2) pos) (sPar i j ws) := PS.imp (ps_par hc hN hi hj hij hx hy ha hw hs) fun D σ H ⟨Z, G, ρ, E, hZ, s, hn, hw, g⟩ => by
  obtain ⟨fp, r, n, m, l⟩ := s.rep
  refine ⟨G, ρ, fp, _, s.hd, r, hn, hw, fun vs ts f G' H' x r' f' lk p => ?_⟩
  split at p
  · next a b =>
    cases r' with
    | cons r1 rr =>
      cases rr with
      | cons r2 rr =>
        cases rr
        exact ⟨_, _, rfl, g.nx _ _ G' H' (((s.ext x).setD r1.d.1 i).setD r2.d.1 j) x.hi p⟩
  · exact p.elim
/-! ### for, while -/
/-- from here on what stands now stands still -/
def Ctx.at (Z : Ctx) (G : Gh) : Ctx := { Z with G0 := G }
theorem StOk.now {K : PySem.W.Frag} {Z : Ctx} {G : Gh} {H : Hp} {σ : L2.St} {ρ : Rho} (s : StOk K Z G H σ ρ) : StOk K (Z.at G) G H σ ρ :=
  ⟨s.hd, s.rep, fun _ _ e => e, fun _ e z => absurd e z, fun a o e n => s.keep a o e (by
    cases q : Z.G0.obj a with
    | none => rfl
    | some g => rw [← s.sub a g q]; exact n), s.there, Nat.le_refl _, s.pin⟩
theorem StOk.back {K : PySem.W.Frag} {Z : Ctx} {G G1 : Gh} {H H1 : Hp} {σ σ1 : L2.St} {ρ ρ1 : Rho} (s1 : StOk K Z G1 H1 σ1 ρ1) (s : StOk K (Z.at G1) G H σ ρ) : StOk K Z G H σ ρ := by
  refine ⟨s.hd, s.rep, fun a g e => s.sub a g (s1.sub a g e), fun a e z => ?_, fun a o e n => ?_, s.there, Nat.le_trans s1.lo s.lo, s.pin⟩
  · cases q : G1.obj a with
    | none => exact s.new a q z
    | some g => exact s1.new a e (by rw [q]; exact fun z => nomatch z)
  · refine s.keep a o e ?_
    show mv (G1.obj a) = false
    cases q : Z.G0.obj a with
    | none =>
      cases z : G1.obj a with
      | none => rfl
      | some g => have := s1.new a q (by rw [z]; exact fun z => nomatch z); rw [e] at this; cases this
    | some g => rw [s1.sub a g q, ← q]; exact n
theorem StOk.backR {K : PySem.W.Frag} {Z : Ctx} {G G1 : Gh} {H H1 : Hp} {σ σ1 : L2.St} {ρ ρ1 : Rho} {v : V} {t : T} (s1 : StOk K Z G1 H1 σ1 ρ1) (s : Res K (Z.at G1) G H σ ρ v t) : Res K Z G H σ ρ v t := ⟨s1.back s.st, s.rep⟩
def sFor (p : Pat) (wi : TWI) (W : TSW) : TSW := fun E ρ => wi ρ fun fl its => fl = true ∧ ∃ I : Nat → Rho → Prop, I 0 ρ ∧
  (∀ i t ρ', its[i]? = some t → I i ρ' → match bindP p t ρ' with
    | some ρ1 => W { E with nx := I (i + 1), ct := I (i + 1), bk := E.nx } ρ1
    | none => False) ∧ ∀ ρ', I its.length ρ' → E.nx ρ'
theorem ws_for {tg iter : Expr} {body : List Stmt} {W : TSW} (hp : PassesOwn (model X.prog X.w) X.A X.env X.xe) (hc : X.calm = true) (hi : WI X ci N tg iter wi) (hg : PG X tg (patG X.K p)) (hb : WSs X np c body W) (hs : ∀ x, foldedSetIterable iter X.env x = pure x := by intro _; rfl) :
    WS X np (ci + N * c) (.For tg iter body [] pos) (sFor p wi W) := PS.imp (ps_for hp hc hi hg hb hs) fun D σ H ⟨Z, G, ρ, E, hZ, s, hn, hw, g⟩ => by
  obtain ⟨fp, r, n, m, l⟩ := s.rep
  refine ⟨G, ρ, fp, _, s.hd, r, by omega, hw, fun J fl its f Gd Y G1 H1 x1 f1 ffl hl wk st hw1 => ?_⟩
  obtain ⟨rfl, I, i0, is, idn⟩ := hw1
  have lf : Lent f := ffl rfl
  have s1 := s.ext x1
  have hx1 := x1.hi
  have nb : its.length * c ≤ N * c := Nat.mul_le_mul_right _ hl
  have later : ∀ {G2 H2 σ2 ρ2}, StOk X.K (Z.at G1) G2 H2 σ2 ρ2 → Later (fun a => (false, a) ∈ f) G1 H1 G2 H2 := fun {G2 H2 σ2 ρ2} s2 => ⟨s2.hd, s2.sub, fun a o ka e ng => by
    have h0 := l a (f1 _ ka)
    cases q : Z.H0 a with
    | none => exact absurd q h0
    | some o' =>
      have k1 := s1.now.keep a o' q (by show mv (G1.obj a) = false; rw [ng]; rfl)
      rw [e] at k1; cases k1
      refine ⟨s2.keep a o q (by show mv (G1.obj a) = false; rw [ng]; rfl), ?_⟩
      cases q3 : G2.obj a with
      | none => rfl
      | some g => exact absurd (s2.new a ng (by rw [q3]; exact fun z => nomatch z)) h0⟩
  have lk : ∀ q ∈ f, (false, q.2) ∈ f := fun q hq => by have := lf q hq; obtain ⟨q1, q2⟩ := q; cases this; exact hq
  refine for_it wk (fun i σ2 H2 => i ≤ its.length ∧ ∃ G2 ρ2, StOk X.K (Z.at G1) G2 H2 σ2 ρ2 ∧ G2.n ≤ G1.n + i * c ∧ I i ρ2) ?_ ?_ ?_ ?_
  · exact ⟨Nat.zero_le _, G1, ρ, s1.now, by omega, i0⟩
  · rintro i σ2 H2 _ ⟨_, G2, ρ2, s2, n2, inv⟩
    exact (st _ G2 H2 lk (later s2)).1
  · rintro i x σ2 H2 H3 hi ⟨_, G2, ρ2, s2, n2, inv⟩ y
    obtain ⟨t, gg, G3, et, x3, rt, sg⟩ := (st _ G2 H2 lk (later s2)).2 i x H3 y
    have step := is i t ρ2 et inv
    have hx3 := x3.hi
    have e1 : (i + 1) * c = i * c + c := Nat.succ_mul _ _
    have nb2 : (i + 1) * c ≤ N * c := Nat.mul_le_mul_right _ (by omega)
    cases hb : bindP p t ρ2 with
    | none => rw [hb] at step; exact step.elim
    | some ρ3 =>
      rw [hb] at step
      refine (s2.ext x3).bind rt (lf.sub sg) (fun a ha => l a (f1 _ (sg _ ha))) hb fun σ3 s3 => ?_
      exact ⟨Z.at G1, G3, ρ3, { E with nx := I (i + 1), ct := I (i + 1), bk := E.nx }, hZ, s3, by omega, step,
        ⟨fun σ4 ρ4 G4 H4 s4 m4 q4 => ⟨hi, G4, ρ4, s4, by omega, q4⟩, fun v d σ ρ G H s' m => g.rt v d σ ρ G H (s1.backR s') (by omega), fun σ ρ G H s' m => g.nx σ ρ G H (s1.back s') (by omega), fun σ4 ρ4 G4 H4 s4 m4 q4 => ⟨hi, G4, ρ4, s4, by omega, q4⟩, fun C dx fs vs σ ρ G H s' m => g.ex C dx fs vs σ ρ G H (s1.back s') (by omega)⟩⟩
  · rintro σ2 H2 ⟨_, G2, ρ2, s2, n2, inv⟩
    exact g.nx σ2 ρ2 G2 H2 (s1.back s2) (by omega) (idn ρ2 inv)
/-- while: by a word and a measure of the slots; nothing is drawn in it -/
def sWhile (wt : TB) (W : TSW) : TSW := fun E ρ => ∃ (I : Rho → Prop) (μ : Rho → Nat), I ρ ∧ ∀ ρ', I ρ' → wt ρ' fun b => if b = true then W { E with nx := fun r => I r ∧ μ r < μ ρ', ct := fun r => I r ∧ μ r < μ ρ', bk := E.nx } ρ' else E.nx ρ'
theorem ws_while {q : Expr} {body : List Stmt} {W : TSW} (hp : PassesOwn (model X.prog X.w) X.A X.env X.xe) (hq : WT X 0 q wt) (hb : WSs X np 0 body W) : WS X np 0 (.While q body [] pos) (sWhile wt W) := PS.imp (ps_while hp hq hb) fun D σ H ⟨Z, G, ρ, E, hZ, s, hn, hw, g⟩ => by
  obtain ⟨I, μ, i0, is⟩ := hw
  refine ⟨fun m σ2 H2 => ∃ G2 ρ2, StOk X.K Z G2 H2 σ2 ρ2 ∧ G2.n ≤ G.n ∧ I ρ2 ∧ m = μ ρ2, ⟨_, G, ρ, s, Nat.le_refl _, i0, rfl⟩, ?_⟩
  rintro m σ2 H2 ⟨G2, ρ2, s2, n2, inv, rfl⟩
  refine s2.evT (by omega) (is ρ2 inv) fun b G3 H3 s3 x3 p3 => ?_
  have := x3.hi
  cases b with
  | false => exact iteF (g.nx σ2 ρ2 G3 H3 s3 (by omega) (uF p3))
  | true =>
    refine iteT ⟨fun σ4 H4 => ∃ G4 ρ4, StOk X.K Z G4 H4 σ4 ρ4 ∧ G4.n ≤ G.n ∧ I ρ4 ∧ μ ρ4 < μ ρ2, fun σ4 H4 ⟨G4, ρ4, s4, n4, i4, l4⟩ => ⟨_, l4, G4, ρ4, s4, n4, i4, rfl⟩, ?_⟩
    exact ⟨Z, G3, ρ2, _, hZ, s3, by omega, uT p3, ⟨fun σ ρ G' H s' m ⟨q1, q2⟩ => ⟨G', ρ, s', by omega, q1, q2⟩, fun v d σ ρ G H s' m => g.rt v d σ ρ G H s' (by omega), fun σ ρ G H s' m => g.nx σ ρ G H s' (by omega), fun σ ρ G' H s' m ⟨q1, q2⟩ => ⟨G', ρ, s', by omega, q1, q2⟩, fun C dx fs vs σ ρ G H s' m => g.ex C dx fs vs σ ρ G H s' (by omega)⟩⟩
end
end TL
set_option Elab.async false
set_option linter.all false
set_option maxRecDepth 100000
set_option maxHeartbeats 1000000
/-! TL9: built-ins, membership, slices, displays. -/
namespace TL
open PySem PySem.Spec PyProof.Rows L2
section
variable {K : PySem.W.Frag} {G G' : Gh} {H H' : Hp} {c : Nat}
/-! ### in -/
def flatD : D → Bool
  | .non => true
  | .bl _ => true
  | .int _ => true
  | .str _ => true
  | _ => false
def flatT : T → Bool
  | .fr d => flatD d
  | _ => false
theorem flat_V {v : V} {t : T} {f : Fps} (r : RepT K G H v t f) (h : flatT t = true) : flatV v = true := by
  cases r with
  | fr r => cases r <;> first | rfl | cases h
  | _ => cases h
def toV : D → V
  | .bl b => .bl b
  | .int i => .int i
  | .str l => .str (mkS l)
  | _ => .non
theorem flat_is {v : V} {d : D} (r : RepD K G v d) (h : flatD d = true) : v = toV d := by
  cases d with
  | str l => obtain ⟨x, rfl, e, _, _⟩ := r.str'; subst e; show V.str x = V.str (mkS (tl x)); rw [show mkS (tl x) = x from mk_tl x]
  | non => exact r.non'
  | bl b => exact r.bl'
  | int i => exact r.int'
  | _ => cases h
theorem eqV_eqD {v w : V} {s t : T} {f g : Fps} (r : RepT K G H v s f) (q : RepT K G H w t g) (h : flatT s = true) (h' : flatT t = true) : eqV v w = eqD s.toD t.toD := by
  cases s with
  | fr d =>
    cases t with
    | fr e =>
      rw [flat_is r.d.1 h, flat_is q.d.1 h']
      cases d <;> cases e <;> first | rfl | (cases h; done) | (cases h'; done)
    | _ => cases h'
  | _ => cases h
def inT (x : T) (ts : List T) : Bool := ts.any fun t => eqD t.toD x.toD
theorem inT_ok {v : V} {x : T} {f : Fps} (r : RepT K G H v x f) (h : flatT x = true) : ∀ {vs : List V} {ts : List T} {g : Fps}, RepTs K G H vs ts g → ts.all flatT = true → vs.all flatV = true ∧ inV v vs = inT x ts
  | _, _, _, .nil, _ => ⟨rfl, rfl⟩
  | _, _, _, .cons (vs := vs) (ts := ts) q t, ht => by
    simp only [List.all_cons, Bool.and_eq_true] at ht
    have ih := inT_ok r h t ht.2
    refine ⟨by simp [flat_V q ht.1, ih.1], ?_⟩
    show (eqV _ v || inV v _) = (eqD _ _ || inT x _)
    rw [eqV_eqD q r ht.1 h, ih.2]
/-- x in y: what is in a list or a tuple of flat things, a sign in a text, a key in a dict -/
def oInB (x y : T) : Option Bool := match elems y with
  | some (_, ts) => if flatT x = true ∧ ts.all flatT = true then some (inT x ts) else none
  | none => match x, y with
    | .fr (.str [c]), .fr (.str l) => some (decide (c ∈ l))
    | x, y => (dGet y x).map (·.isSome)
def oIn : T → T → (T → Prop) → Prop := fun x y P => match oInB x y with
  | some b => P (.fr (.bl b))
  | none => False
def oNotIn : T → T → (T → Prop) → Prop := fun x y P => match oInB x y with
  | some b => P (.fr (.bl (!b)))
  | none => False
def rInS (neg : Bool) : R2 := fun x y H Q => ∃ (c : Nat) (z : Str), x = .str ⟨#[c]⟩ ∧ y = .str z ∧ Q (.bl (if neg then !decide (c ∈ z.cps.toList) else decide (c ∈ z.cps.toList))) H
def rInD (neg : Bool) : R2 := fun y x H Q => ∃ a ov, x = .ref a ∧ DGet H a y ov ∧ Q (.bl (if neg then !ov.isSome else ov.isSome)) H
def rInV (K : PySem.W.Frag) (neg : Bool) : R2 := fun x y H Q => rIn K neg x y H Q ∨ rInS neg x y H Q ∨ rInD neg x y H Q
theorem op_inV {X : Cx} (hu : X.A.units + 1 < cLine) : OpR X (compareOp .In) (rInV X.K false) := op_in_seq.or (op_in_sign.or fun pins s σ H x y v u Q I rx ry ⟨a, ov, e, g, q⟩ => by
  subst e
  obtain rfl : u = Value.ref a := ry
  exact d_in hu I g rx fun s3 I3 => ⟨.bl ov.isSome, H, I3, rfl, q⟩)
theorem op_notInV {X : Cx} (hu : X.A.units + 1 < cLine) : OpR X (compareOp .NotIn) (rInV X.K true) := op_notIn_seq.or (op_notIn_sign.or fun pins s σ H x y v u Q I rx ry ⟨a, ov, e, g, q⟩ => by
  subst e
  obtain rfl : u = Value.ref a := ry
  exact d_notIn hu I g rx fun s3 I3 => ⟨.bl (!ov.isSome), H, I3, rfl, q⟩)
theorem optR_isSome {R : V → T → Prop} : ∀ {o : Option V} {u : Option T}, optR R o u → o.isSome = u.isSome
  | some _, some _, _ => rfl
  | none, none, _ => rfl
  | some _, none, r => r.elim
  | none, some _, r => r.elim
theorem in_ok {x y : V} {tx ty : T} {fx fy : Fps} {b neg : Bool} {Q : VK} (hd : Holds G H) (rx : RepT K G H x tx fx) (ry : RepT K G H y ty fy) (e : oInB tx ty = some b) (h : Q (.bl (if neg then !b else b)) H) : rInV K neg x y H Q := by
  unfold oInB at e
  split at e
  · next l ts he =>
    split at e
    · next hf =>
      cases e
      obtain ⟨a, vs, g, rfl, hl, rt, _⟩ := elems_ok hd ry he
      have q := inT_ok rx hf.1 rt hf.2
      refine .inl ⟨a, vs, rfl, ?_, flat_V rx hf.1, q.1, ?_⟩
      · cases l with
        | true => exact .inl hl
        | false => exact .inr hl
      · rw [q.2]; exact h
    · cases e
  · split at e
    · next c l _ =>
      cases e
      obtain ⟨z, rfl, e1, _, _⟩ := rx.d.1.str'
      obtain ⟨z2, rfl, e2, _, _⟩ := ry.d.1.str'
      refine .inr (.inl ⟨c, z2, ?_, rfl, ?_⟩)
      · rw [← mk_tl z, e1]
      · rw [show z2.cps.toList = l from e2]; exact h
    · next x0 y0 _ =>
      cases ho : dGet ty tx with
      | none => rw [ho] at e; cases e
      | some o =>
        rw [ho] at e
        cases e
        obtain ⟨a, ov, rfl, g, r⟩ := dGet_ok hd ry rx ho
        refine .inr (.inr ⟨a, ov, rfl, g, ?_⟩)
        rw [optR_isSome r]; exact h
theorem l_in : Leaf2 K (rInV K false) oIn := fun G H x y tx ty fx fy P Q hd lk rx ry h k => by
  unfold oIn at h
  split at h
  · next b hb => exact in_ok hd rx ry hb (k _ _ [] G H (Ext.refl hd) (.fr (.bl b)) noFp2 h)
  · exact h.elim
theorem l_notIn : Leaf2 K (rInV K true) oNotIn := fun G H x y tx ty fx fy P Q hd lk rx ry h k => by
  unfold oNotIn at h
  split at h
  · next b hb => exact in_ok hd rx ry hb (k _ _ [] G H (Ext.refl hd) (.fr (.bl (!b))) noFp2 h)
  · exact h.elim
/-! ### displays -/
def frs : List T → Option (List D)
  | [] => some []
  | .fr d :: ts => match frs ts with
    | some ds => some (d :: ds)
    | none => none
  | _ :: _ => none
theorem frs_ok : ∀ {ts : List T} {ds : List D}, frs ts = some ds → ts = ds.map .fr
  | [], _, h => by cases h; rfl
  | .fr d :: ts, ds, h => by
    unfold frs at h
    split at h
    · next es he => cases h; rw [frs_ok he]; rfl
    · cases h
  | .tup _ :: _, _, h => by cases h
  | .lst _ _ :: _, _, h => by cases h
  | .dk _ _ :: _, _, h => by cases h
  | .dt _ _ :: _, _, h => by cases h
  | .ins _ _ _ :: _, _, h => by cases h
def wTup (ws : TWs) : TW := fun ρ P => ws ρ fun ts => ts.length ≤ 1000 ∧ P (match frs ts with
  | some ds => .fr (.tup ds)
  | none => .tup ts)
def wLst (ws : TWs) : TW := fun ρ P => ws ρ fun ts => ts.length ≤ 1000 ∧ match frs ts with
  | some ds => P (.fr (.lst ds))
  | none => False
theorem le_line {n : Nat} (h : n ≤ 1000) : n ≤ sizeLine := Nat.le_trans h (by rw [sizeLine_eq]; decide)
end
section
variable {X : Cx} {e : Expr} {es : List Expr} {pos : Pos} {c ca : Nat} {w wa : TW} {ws : TWs}
theorem we_tup {x1} (h : WA X c es ws) : WE X c (.Tuple es x1 pos) (wTup ws) := PE.imp (pe_tup h) fun σ H Q ⟨G, ρ, fp, P, hd, rs, hn, hw, k⟩ => by
  refine ⟨G, ρ, fp, _, hd, rs, hn, hw, fun vs ts f G1 H1 x1 r1 f1 lk p => ?_⟩
  refine ⟨by rw [r1.length]; exact le_line p.1, fun q hq lk2 => ?_⟩
  have p2 := p.2
  split at p2
  · next ds hds =>
    have e1 := frs_ok hds
    subst e1
    obtain ⟨rd, rfl⟩ := r1.ds
    have z := newTup (K := X.K) x1.hd hq rd
    exact k _ _ [] _ _ ((x1.trans z.1).more (by omega)) (.fr z.2) noFp lk2 p2
  · have z := Ext.alloc x1.hd hq (.tup vs)
    exact k _ _ f _ _ ((x1.trans z).more (by omega)) (.tup Gh.put_same (r1.ext z)) f1 lk2 p2
theorem we_lst (h : WA X c es ws) : WE X c (.List es pos) (wLst ws) := PE.imp (pe_lst h) fun σ H Q ⟨G, ρ, fp, P, hd, rs, hn, hw, k⟩ => by
  refine ⟨G, ρ, fp, _, hd, rs, hn, hw, fun vs ts f G1 H1 x1 r1 f1 lk p => ?_⟩
  refine ⟨by rw [r1.length]; exact le_line p.1, fun q hq lk2 => ?_⟩
  have p2 := p.2
  split at p2
  · next ds hds =>
    have e1 := frs_ok hds
    subst e1
    obtain ⟨rd, rfl⟩ := r1.ds
    have z := newLst (K := X.K) x1.hd hq rd
    exact k _ _ [] _ _ ((x1.trans z.1).more (by omega)) (.fr z.2) noFp lk2 p2
  · exact p2.elim
/-! ### one part: - -/
def Leaf1 (K : PySem.W.Frag) (r : V → Hp → VK → Prop) (o : T → (T → Prop) → Prop) : Prop := ∀ (G : Gh) (H : Hp) (x : V) (tx : T) (fx : Fps) (P : T → Prop) (Q : VK), Holds G H → RepT K G H x tx fx → o tx P →
  (∀ v t f G' H', Ext 0 G H G' H' → RepT K G' H' v t f → (∀ q ∈ f, q ∈ fx) → P t → Q v H') → r x H Q
def w1 (o : T → (T → Prop) → Prop) (wa : TW) : TW := fun ρ P => wa ρ fun x => o x P
theorem we_un {op : UnaryOp} {r : V → Hp → VK → Prop} {o : T → (T → Prop) → Prop} (ho : UnR X (unaryOp op) r) (lf : Leaf1 X.K r o) (ha : WE X c e w) : WE X c (.UnaryOp op e pos) (w1 o w) := PE.imp (pe_un ho ha) fun σ H Q ⟨G, ρ, fp, P, hd, rs, hn, hw, k⟩ => by
  refine ⟨G, ρ, fp, _, hd, rs, hn, hw, fun v t f G1 H1 x1 r1 f1 lk p => ?_⟩
  exact lf G1 H1 v t f P _ x1.hd r1 p fun z tz fz G2 H2 x2 r2 f2 p2 lk => k z tz fz G2 H2 (x1.trans x2) r2 (fun q hq => f1 q (f2 q hq)) lk p2
def oNeg : T → (T → Prop) → Prop
  | .fr (.int i), P => P (.fr (.int (-i)))
  | _, _ => False
theorem l_neg {K : PySem.W.Frag} : Leaf1 K (rU fun i => .int (-i)) oNeg := fun G H x tx fx P Q hd rx h k => by
  unfold oNeg at h
  split at h
  · next i => rw [rx.d.1.int']; exact ⟨i, rfl, k _ _ [] G H (Ext.refl hd) (.fr (.int _)) noFp h⟩
  · exact h.elim
/-! ### slices -/
def wNo : Rho → (Option Int → Prop) → Prop := fun _ P => P none
def wPart (w : TW) : Rho → (Option Int → Prop) → Prop := fun ρ P => w ρ fun t => match t with
  | .fr (.int i) => P (some i)
  | _ => False
def liftO (K : PySem.W.Frag) (c : Nat) (w : Rho → (Option Int → Prop) → Prop) : TO := fun σ H Q => ∃ G ρ fp P, Holds G H ∧ RepS K G H σ ρ fp ∧ G.n + c ≤ LIM ∧ w ρ P ∧ ∀ o G' H', Ext c G H G' H' → LenOk K H' → P o → Q o H'
def WO (X : Cx) (c : Nat) (e : Option Expr) (w : Rho → (Option Int → Prop) → Prop) : Prop := PO X e (liftO X.K c w)
theorem PO.imp {o : Option Expr} {t t' : TO} (h : PO X o t) (i : ∀ σ H Q, t' σ H Q → t σ H fun v H1 => LenOk X.K H1 → Q v H1) : PO X o t' := by
  obtain ⟨h⟩ := h
  exact ⟨fun pins s σ H Q I q => thn (h pins s σ H _ I (i σ H Q q)) fun u s' z => by
    obtain ⟨o, H1, I1, e, q1⟩ := z
    exact ⟨o, H1, I1, e, q1 (lenOk I1)⟩⟩
theorem wo_none : WO X 0 none wNo := PO.imp po_none fun σ H Q ⟨G, ρ, fp, P, hd, rs, hn, hw, k⟩ lk => k none G H (Ext.refl hd) lk hw
theorem wo_some (h : WE X c e w) : WO X c (some e) (wPart w) := PO.imp (po_some h) fun σ H Q ⟨G, ρ, fp, P, hd, rs, hn, hw, k⟩ => by
  refine ⟨G, ρ, fp, _, hd, rs, hn, hw, fun v t f G1 H1 x1 r1 f1 lk p => ?_⟩
  split at p
  · next i => rw [r1.d.1.int']; exact ⟨i, rfl, fun lk => k (some i) G1 H1 x1 lk p⟩
  · exact p.elim
def cut {α : Type} (xs : List α) (lo hi : Option Int) : List α := (xs.drop (HT.sIx xs.length 0 lo)).take (HT.sIx xs.length xs.length hi - HT.sIx xs.length 0 lo)
def oSl : T → Option Int → Option Int → (T → Prop) → Prop
  | .fr (.lst ds), lo, hi, P => P (.fr (.lst (cut ds lo hi)))
  | .fr (.str l), lo, hi, P => P (.fr (.str (cut l lo hi)))
  | .fr (.tup ds), lo, hi, P => ¬ (HT.sIx ds.length 0 lo = 0 ∧ HT.sIx ds.length ds.length hi = ds.length) ∧ P (.fr (.tup (cut ds lo hi)))
  | .lst _ ts, lo, hi, P => match frs ts with
    | some ds => P (.fr (.lst (cut ds lo hi)))
    | none => False
  | _, _, _, _ => False
def rSlV (K : PySem.W.Frag) : V → Option Int → Option Int → Hp → VK → Prop := fun x lo hi H Q => rSlL K x lo hi H Q ∨ rSlS x lo hi H Q ∨ rSlT K x lo hi H Q
theorem sl_V : SlR X (rSlV X.K) := sl_list.or (sl_str.or sl_tup)
theorem RepDs.drop {K : PySem.W.Frag} {G : Gh} : ∀ {vs : List V} {ds : List D} (n : Nat), RepDs K G vs ds → RepDs K G (vs.drop n) (ds.drop n)
  | _, _, 0, r => r
  | _, _, _ + 1, .nil => .nil
  | _, _, n + 1, .cons _ t => RepDs.drop n t
theorem RepDs.take {K : PySem.W.Frag} {G : Gh} : ∀ {vs : List V} {ds : List D} (n : Nat), RepDs K G vs ds → RepDs K G (vs.take n) (ds.take n)
  | _, _, 0, _ => .nil
  | _, _, _ + 1, .nil => .nil
  | _, _, n + 1, .cons r t => .cons r (RepDs.take n t)
theorem RepDs.cut {K : PySem.W.Frag} {G : Gh} {vs : List V} {ds : List D} (r : RepDs K G vs ds) (lo hi : Option Int) : RepDs K G (cutV vs lo hi) (TL.cut ds lo hi) := by
  unfold cutV TL.cut
  rw [r.length]
  exact (r.drop _).take _
def wSl (w : TW) (wl wh : Rho → (Option Int → Prop) → Prop) : TW := fun ρ P => w ρ fun x => wl ρ fun lo => wh ρ fun hi => oSl x lo hi P
theorem we_sl {lo hi : Option Expr} {p2 : Pos} {cl ch : Nat} {wl wh : Rho → (Option Int → Prop) → Prop} (he : WE X c e w) (hl : WO X cl lo wl) (hh : WO X ch hi wh) : WE X (c + cl + ch) (.Subscript e (.Slice lo hi none p2) pos) (wSl w wl wh) := PE.imp (pe_slice sl_V he hl hh) fun σ H Q ⟨G, ρ, fp, P, hd, rs, hn, hw, k⟩ => by
  refine ⟨G, ρ, fp, _, hd, rs, by omega, hw, fun v t f G1 H1 x1 r1 f1 lk p => ?_⟩
  have := x1.hi
  refine ⟨G1, ρ, fp, _, x1.hd, rs.ext x1, by omega, p, fun o1 G2 H2 x2 lk2 p2 => ?_⟩
  have := x2.hi
  refine ⟨G2, ρ, fp, _, x2.hd, (rs.ext x1).ext x2, by omega, p2, fun o2 G3 H3 x3 lk3 p3 => ?_⟩
  have x := (x1.trans x2).trans x3
  have r3 := (r1.ext x2).ext x3
  unfold oSl at p3
  split at p3
  · next ds =>
    obtain ⟨a, vs, rfl, h1, _, rd⟩ := r3.d.1.lst' x3.hd
    refine .inl ⟨a, vs, rfl, SqL.of h1, fun q hq lk4 => ?_⟩
    have z := newLst (K := X.K) x3.hd hq (rd.cut o1 o2)
    exact k _ _ [] _ _ ((x.trans z.1).more (by omega)) (.fr z.2) noFp lk4 p3
  · next l =>
    obtain ⟨z, rfl, e1, c1, z1⟩ := r3.d.1.str'
    have ez : tl (cutS z o1 o2) = cut l o1 o2 := by
      subst e1
      show ((tl z).drop (HT.sIx z.length 0 o1)).take (HT.sIx z.length z.length o2 - HT.sIx z.length 0 o1) = _
      rw [len_tl]
      rfl
    refine .inr (.inl ⟨z, rfl, by rw [len_tl, e1]; exact z1, fun lk4 => k _ _ [] G3 H3 x (.fr (.str ez (fun c hc => c1 c ?_) ?_)) noFp lk4 p3⟩)
    · exact List.mem_of_mem_drop (List.mem_of_mem_take hc)
    · refine Nat.le_trans ?_ z1
      unfold cut
      rw [List.length_take, List.length_drop]
      omega
  · next ds =>
    obtain ⟨a, vs, rfl, h1, _, rd⟩ := r3.d.1.tup' x3.hd
    refine .inr (.inr ⟨a, vs, rfl, SqT.of h1, by rw [rd.length]; exact p3.1, fun q hq lk4 => ?_⟩)
    have z := newTup (K := X.K) x3.hd hq (rd.cut o1 o2)
    exact k _ _ [] _ _ ((x.trans z.1).more (by omega)) (.fr z.2) noFp lk4 p3.2
  · next m ts =>
    split at p3
    · next ds hds =>
      have e1 := frs_ok hds
      subst e1
      cases r3 with
      | lst h1 n1 rt =>
        obtain ⟨rd, _⟩ := rt.ds
        refine .inl ⟨_, _, rfl, SqL.of h1, fun q hq lk4 => ?_⟩
        have z := newLst (K := X.K) x3.hd hq (rd.cut o1 o2)
        exact k _ _ [] _ _ ((x.trans z.1).more (by omega)) (.fr z.2) noFp lk4 p3
    · exact p3.elim
  · exact p3.elim
end
/-! ### built-ins -/
section
variable {X : Cx} {K : PySem.W.Frag}
def lenT : T → Option Nat := fun t => match elems t with
  | some (_, ts) => some ts.length
  | none => match t with
    | .fr (.str l) => some l.length
    | .dk _ kvs => some kvs.length
    | _ => none
def oLen : List T → (T → Prop) → Prop
  | [t], P => match lenT t with
    | some n => P (.fr (.int n))
    | none => False
  | _, _ => False
def rLenV (K : PySem.W.Frag) : List V → Hp → VK → Prop := fun xs H Q => (∃ x n, xs = [x] ∧ LenV K x H n ∧ Q (.int n) H) ∨ ∃ a kvs, xs = [V.ref a] ∧ H a = some (.dK kvs) ∧ Q (.int kvs.length) H
theorem call_lenV : CallR X (.builtin "len") (rLenV X.K) := call_len.or call_lenD
theorem zip_len {κ : Type} {α : Type} {g : κ → Key} {kvs : List (κ × α)} {vs : List V} (h : vs.length = kvs.length) : ((kvs.map (g ·.1)).zip vs).length = kvs.length := by simp [h]
theorem l_len : LeafN K (rLenV K) oLen := fun G H vs ts f P Q hd lk r h k => by
  unfold oLen at h
  split at h
  · next t =>
    cases r with
    | cons r rr =>
      cases rr
      split at h
      · next n hn =>
        have fin : ∀ m, m = n → Q (.int m) H := fun m e => by subst e; exact k _ _ [] G H (Ext.refl hd) (.fr (.int _)) noFp h
        unfold lenT at hn
        split at hn
        · next l us he =>
          cases hn
          obtain ⟨a, ws, g, rfl, hl, rt, _⟩ := elems_ok hd r he
          refine .inl ⟨_, us.length, rfl, ?_, k _ _ [] G H (Ext.refl hd) (.fr (.int _)) noFp h⟩
          cases l with
          | true => exact .inl ⟨ws, hl, rt.length.symm⟩
          | false => exact .inr ⟨ws, hl, rt.length.symm⟩
        · split at hn
          · rename_i l _
            cases hn
            obtain ⟨z, rfl, e1, _, z1⟩ := r.d.1.str'
            exact .inl ⟨_, l.length, rfl, ⟨by rw [len_tl, e1]; exact z1, by rw [len_tl, e1]⟩, k _ _ [] G H (Ext.refl hd) (.fr (.int _)) noFp h⟩
          · next m kvs =>
            cases hn
            cases r with
            | dk e1 n1 r1 =>
              refine .inr ⟨_, _, rfl, e1, ?_⟩
              rw [zip_len (by rw [r1.length, List.length_map])]
              exact k _ _ [] G H (Ext.refl hd) (.fr (.int _)) noFp h
          · cases hn
      · exact h.elim
  · exact h.elim
end
end TL
set_option Elab.async false
set_option linter.all false
set_option maxRecDepth 100000
set_option maxHeartbeats 1000000
/-! TL10: more built-ins; lists of our own. -/
namespace TL
open PySem PySem.Spec PyProof.Rows L2
def intsD : List D → Option (List Int)
  | [] => some []
  | .int i :: ds => (intsD ds).map (i :: ·)
  | _ :: _ => none
def blsD : List D → Option (List Bool)
  | [] => some []
  | .bl i :: ds => (blsD ds).map (i :: ·)
  | _ :: _ => none
theorem intsD_ok : ∀ {ds : List D} {ns : List Int}, intsD ds = some ns → ds = ns.map .int
  | [], _, h => by cases h; rfl
  | .int i :: ds, ns, h => by
    unfold intsD at h
    cases q : intsD ds with
    | none => rw [q] at h; cases h
    | some ms => rw [q] at h; cases h; rw [intsD_ok q]; rfl
  | .non :: _, _, h => by cases h
  | .bl _ :: _, _, h => by cases h
  | .str _ :: _, _, h => by cases h
  | .lst _ :: _, _, h => by cases h
  | .tup _ :: _, _, h => by cases h
  | .dk _ :: _, _, h => by cases h
  | .dt _ :: _, _, h => by cases h
  | .ins _ _ :: _, _, h => by cases h
  | .rng :: _, _, h => by cases h
  | .scr _ :: _, _, h => by cases h
theorem intsD_map {α : Type} (g : α → Int) (xs : List α) : intsD (xs.map fun x => D.int (g x)) = some (xs.map g) := by
  induction xs with
  | nil => rfl
  | cons x xs ih => simp [intsD, ih]
theorem blsD_map {α : Type} (g : α → Bool) (xs : List α) : blsD (xs.map fun x => D.bl (g x)) = some (xs.map g) := by
  induction xs with
  | nil => rfl
  | cons x xs ih => simp [blsD, ih]
theorem blsD_ok : ∀ {ds : List D} {ns : List Bool}, blsD ds = some ns → ds = ns.map .bl
  | [], _, h => by cases h; rfl
  | .bl i :: ds, ns, h => by
    unfold blsD at h
    cases q : blsD ds with
    | none => rw [q] at h; cases h
    | some ms => rw [q] at h; cases h; rw [blsD_ok q]; rfl
  | .non :: _, _, h => by cases h
  | .int _ :: _, _, h => by cases h
  | .str _ :: _, _, h => by cases h
  | .lst _ :: _, _, h => by cases h
  | .tup _ :: _, _, h => by cases h
  | .dk _ :: _, _, h => by cases h
  | .dt _ :: _, _, h => by cases h
  | .ins _ _ :: _, _, h => by cases h
  | .rng :: _, _, h => by cases h
  | .scr _ :: _, _, h => by cases h
/-- the things of a list that stands still or is ours -/
def lstD : T → Option (List D)
  | .fr (.lst ds) => some ds
  | .lst _ ts => frs ts
  | .fr (.scr ns) => some (ns.map .int)
  | _ => none
theorem frs_map (ds : List D) : frs (ds.map T.fr) = some ds := by
  induction ds with
  | nil => rfl
  | cons d ds ih => simp [frs, ih]
section
variable {X : Cx} {K : PySem.W.Frag} {G : Gh} {H : Hp}
theorem repInts {vs : List V} {ns : List Int} (r : RepDs K G vs (ns.map .int)) : vs = ns.map .int := by
  induction ns generalizing vs with
  | nil => cases r; rfl
  | cons n ns ih => cases r with | cons a b => rw [a.int', ih b]; rfl
theorem repBls {vs : List V} {ns : List Bool} (r : RepDs K G vs (ns.map .bl)) : vs = ns.map .bl := by
  induction ns generalizing vs with
  | nil => cases r; rfl
  | cons n ns ih => cases r with | cons a b => rw [a.bl', ih b]; rfl
theorem lstD_ok {v : V} {t : T} {f : Fps} {ds : List D} (hd : Holds G H) (r : RepT K G H v t f) (e : lstD t = some ds) : ∃ a vs, v = .ref a ∧ SqL K H a vs ∧ RepDs K G vs ds := by
  have allI : ∀ ns : List Int, RepDs K G (ns.map .int) (ns.map .int) := fun ns => by
    induction ns with
    | nil => exact .nil
    | cons n ns ih => exact .cons (.int n) ih
  cases t with
  | fr d =>
    obtain ⟨r9, rfl⟩ := r.d
    cases d with
    | lst es => cases e; obtain ⟨a, vs, rfl, h1, _, h3⟩ := r9.lst' hd; exact ⟨a, vs, rfl, SqL.of h1, h3⟩
    | scr ns => cases e; obtain ⟨a, rfl, h1⟩ := r9.scr' hd; exact ⟨a, _, rfl, h1, allI ns⟩
    | _ => cases e
  | lst m ts =>
    have e1 := frs_ok (show frs ts = some ds from e)
    subst e1
    cases r with | lst h n r => exact ⟨_, _, rfl, SqL.of h, r.ds.1⟩
  | _ => cases e
def o1 (o : T → (T → Prop) → Prop) : List T → (T → Prop) → Prop
  | [t], P => o t P
  | _, _ => False
def oSum : T → (T → Prop) → Prop := fun t P => match (lstD t).bind intsD with
  | some ns => P (.fr (.int ns.sum))
  | none => False
def oMax : T → (T → Prop) → Prop := fun t P => match ((lstD t).bind intsD).bind List.max? with
  | some m => P (.fr (.int m))
  | none => False
def oMin : T → (T → Prop) → Prop := fun t P => match ((lstD t).bind intsD).bind List.min? with
  | some m => P (.fr (.int m))
  | none => False
def oAny : T → (T → Prop) → Prop := fun t P => match (lstD t).bind blsD with
  | some bs => P (.fr (.bl (bs.any id)))
  | none => False
def oAll : T → (T → Prop) → Prop := fun t P => match (lstD t).bind blsD with
  | some bs => P (.fr (.bl (bs.all id)))
  | none => False
theorem leaf1 {r : List V → Hp → VK → Prop} {o : T → (T → Prop) → Prop} (h : ∀ (G : Gh) (H : Hp) (v : V) (t : T) (f : Fps) (P : T → Prop) (Q : VK), Holds G H → LenOk K H → RepT K G H v t f → o t P →
    (∀ v t g G' H', Ext 0 G H G' H' → RepT K G' H' v t g → (∀ q ∈ g, q ∈ f) → P t → Q v H') → r [v] H Q) : LeafN K r (o1 o) := fun G H vs ts f P Q hd lk rs hw k => by
  unfold o1 at hw
  split at hw
  · next t =>
    cases rs with
    | cons r rr =>
      cases rr
      exact h G H _ t _ P Q hd lk r hw fun v t g G' H' x r' s p => k v t g G' H' x r' (fun q hq => List.mem_append_left _ (s q hq)) p
  · exact hw.elim
theorem lstI {v : V} {t : T} {f : Fps} {ns : List Int} (hd : Holds G H) (r : RepT K G H v t f) (e : (lstD t).bind intsD = some ns) : ∃ a, v = .ref a ∧ SqL K H a (ns.map .int) := by
  cases q : lstD t with
  | none => rw [q] at e; cases e
  | some ds =>
    rw [q] at e
    obtain ⟨a, vs, rfl, h, rd⟩ := lstD_ok hd r q
    have := intsD_ok (show intsD ds = some ns from e)
    subst this
    rw [repInts rd] at h
    exact ⟨a, rfl, h⟩
theorem lstB {v : V} {t : T} {f : Fps} {ns : List Bool} (hd : Holds G H) (r : RepT K G H v t f) (e : (lstD t).bind blsD = some ns) : ∃ a, v = .ref a ∧ SqL K H a (ns.map .bl) := by
  cases q : lstD t with
  | none => rw [q] at e; cases e
  | some ds =>
    rw [q] at e
    obtain ⟨a, vs, rfl, h, rd⟩ := lstD_ok hd r q
    have := blsD_ok (show blsD ds = some ns from e)
    subst this
    rw [repBls rd] at h
    exact ⟨a, rfl, h⟩
theorem l_sum : LeafN K (rSum K) (o1 oSum) := leaf1 fun G H v t f P Q hd lk r hw k => by
  unfold oSum at hw
  split at hw
  · next ns e => obtain ⟨a, rfl, h⟩ := lstI hd r e; exact ⟨a, ns, rfl, h, k _ _ [] G H (Ext.refl hd) (.fr (.int _)) noFp hw⟩
  · exact hw.elim
theorem l_any : LeafN K (rAny K) (o1 oAny) := leaf1 fun G H v t f P Q hd lk r hw k => by
  unfold oAny at hw
  split at hw
  · next ns e => obtain ⟨a, rfl, h⟩ := lstB hd r e; exact ⟨a, ns, rfl, h, k _ _ [] G H (Ext.refl hd) (.fr (.bl _)) noFp hw⟩
  · exact hw.elim
theorem l_all : LeafN K (rAll K) (o1 oAll) := leaf1 fun G H v t f P Q hd lk r hw k => by
  unfold oAll at hw
  split at hw
  · next ns e => obtain ⟨a, rfl, h⟩ := lstB hd r e; exact ⟨a, ns, rfl, h, k _ _ [] G H (Ext.refl hd) (.fr (.bl _)) noFp hw⟩
  · exact hw.elim
theorem l_max : LeafN K (rMax K) (o1 oMax) := leaf1 fun G H v t f P Q hd lk r hw k => by
  unfold oMax at hw
  split at hw
  · next m e =>
    cases q : (lstD t).bind intsD with
    | none => rw [q] at e; cases e
    | some ns =>
      rw [q] at e
      obtain ⟨a, rfl, h⟩ := lstI hd r q
      obtain ⟨h1, h2⟩ := List.max?_eq_some_iff.mp (show ns.max? = some m from e)
      refine ⟨a, ns, rfl, h, List.length_pos_of_mem h1, fun m' hm hle => ?_⟩
      have : m' = m := Int.le_antisymm (h2 m' hm) (hle m h1)
      subst this
      exact k _ _ [] G H (Ext.refl hd) (.fr (.int _)) noFp hw
  · exact hw.elim
theorem l_min : LeafN K (rMin K) (o1 oMin) := leaf1 fun G H v t f P Q hd lk r hw k => by
  unfold oMin at hw
  split at hw
  · next m e =>
    cases q : (lstD t).bind intsD with
    | none => rw [q] at e; cases e
    | some ns =>
      rw [q] at e
      obtain ⟨a, rfl, h⟩ := lstI hd r q
      obtain ⟨h1, h2⟩ := List.min?_eq_some_iff.mp (show ns.min? = some m from e)
      refine ⟨a, ns, rfl, h, List.length_pos_of_mem h1, fun m' hm hle => ?_⟩
      have : m' = m := Int.le_antisymm (hle m h1) (h2 m' hm)
      subst this
      exact k _ _ [] G H (Ext.refl hd) (.fr (.int _)) noFp hw
  · exact hw.elim
/-- max(a, b), min(a, b), max(list), min(list) -/
def oMaxV : List T → (T → Prop) → Prop
  | [.fr (.int i), .fr (.int j)], P => P (.fr (.int (max i j)))
  | [t], P => oMax t P
  | _, _ => False
def oMinV : List T → (T → Prop) → Prop
  | [.fr (.int i), .fr (.int j)], P => P (.fr (.int (min i j)))
  | [t], P => oMin t P
  | _, _ => False
def rMaxV (K : PySem.W.Frag) : List V → Hp → VK → Prop := fun xs H Q => (∃ i j, xs = [.int i, .int j] ∧ Q (.int (if j > i then j else i)) H) ∨ rMax K xs H Q
def rMinV (K : PySem.W.Frag) : List V → Hp → VK → Prop := fun xs H Q => (∃ i j, xs = [.int i, .int j] ∧ Q (.int (if j < i then j else i)) H) ∨ rMin K xs H Q
theorem call_maxV (hc : X.calm = true) : CallR X (.builtin "max") (rMaxV X.K) := (call_max2 hc).or (cr_max hc)
theorem call_minV (hc : X.calm = true) : CallR X (.builtin "min") (rMinV X.K) := (call_min2 hc).or (cr_min hc)
theorem l_maxV : LeafN K (rMaxV K) oMaxV := fun G H vs ts f P Q hd lk rs hw k => by
  unfold oMaxV at hw
  split at hw
  · next i j =>
    cases rs with
    | cons r rr =>
      cases rr with
      | cons r' rr =>
        cases rr
        rw [r.d.1.int', r'.d.1.int']
        refine .inl ⟨i, j, rfl, ?_⟩
        rw [show (if j > i then j else i) = max i j by omega]
        exact k _ _ [] G H (Ext.refl hd) (.fr (.int _)) noFp hw
  · next t => exact .inr (l_max G H vs _ f P Q hd lk rs hw k)
  · exact hw.elim
theorem l_minV : LeafN K (rMinV K) oMinV := fun G H vs ts f P Q hd lk rs hw k => by
  unfold oMinV at hw
  split at hw
  · next i j =>
    cases rs with
    | cons r rr =>
      cases rr with
      | cons r' rr =>
        cases rr
        rw [r.d.1.int', r'.d.1.int']
        refine .inl ⟨i, j, rfl, ?_⟩
        rw [show (if j < i then j else i) = min i j by omega]
        exact k _ _ [] G H (Ext.refl hd) (.fr (.int _)) noFp hw
  · next t => exact .inr (l_min G H vs _ f P Q hd lk rs hw k)
  · exact hw.elim
def oAbs : T → (T → Prop) → Prop
  | .fr (.int i), P => P (.fr (.int (if i < 0 then -i else i)))
  | _, _ => False
theorem l_abs : LeafN K (fun xs H Q => ∃ i, xs = [V.int i] ∧ Q (.int (if i < 0 then -i else i)) H) (o1 oAbs) := leaf1 fun G H v t f P Q hd lk r hw k => by
  unfold oAbs at hw
  split at hw
  · next i => rw [r.d.1.int']; exact ⟨i, rfl, k _ _ [] G H (Ext.refl hd) (.fr (.int _)) noFp hw⟩
  · exact hw.elim
def oInt : T → (T → Prop) → Prop
  | .fr (.int i), P => P (.fr (.int i))
  | .fr (.bl b), P => P (.fr (.int (if b then 1 else 0)))
  | _, _ => False
theorem l_int : LeafN K (fun xs H Q => (∃ i, xs = [V.int i] ∧ Q (.int i) H) ∨ ∃ k, xs = [V.bl k] ∧ Q (.int (if k then 1 else 0)) H) (o1 oInt) := leaf1 fun G H v t f P Q hd lk r hw k => by
  unfold oInt at hw
  split at hw
  · next i => rw [r.d.1.int']; exact .inl ⟨i, rfl, k _ _ [] G H (Ext.refl hd) (.fr (.int _)) noFp hw⟩
  · next b => rw [r.d.1.bl']; exact .inr ⟨b, rfl, k _ _ [] G H (Ext.refl hd) (.fr (.int _)) noFp hw⟩
  · exact hw.elim
/-- the signs of a number -/
def strI (i : Int) : List Nat := tl (toString i : String)
def oStr : T → (T → Prop) → Prop
  | .fr (.int i), P => i.natAbs.log2 < 1920 ∧ (strI i).length ≤ sizeLine ∧ (∀ c ∈ strI i, c < 0x110000) ∧ P (.fr (.str (strI i)))
  | _, _ => False
theorem l_str : LeafN K (fun xs H Q => ∃ i, xs = [V.int i] ∧ i.natAbs.log2 < 1920 ∧ Q (.str (toString i)) H) (o1 oStr) := leaf1 fun G H v t f P Q hd lk r hw k => by
  unfold oStr at hw
  split at hw
  · next i => rw [r.d.1.int']; exact ⟨i, rfl, hw.1, k _ _ [] G H (Ext.refl hd) (.fr (.str rfl hw.2.2.1 hw.2.1)) noFp hw.2.2.2⟩
  · exact hw.elim
/-- list(x), tuple(x) -/
def seqD : T → Option (List D) := fun t => match elems t with
  | some (_, ts) => frs ts
  | none => none
def oList : T → (T → Prop) → Prop := fun t P => match seqD t with
  | some ds => P (.fr (.lst ds))
  | none => False
def oTuple : T → (T → Prop) → Prop := fun t P => match seqD t with
  | some ds => P (.fr (.tup ds))
  | none => False
theorem seqD_ok {v : V} {t : T} {f : Fps} {ds : List D} (hd : Holds G H) (r : RepT K G H v t f) (e : seqD t = some ds) : ∃ a vs l, v = .ref a ∧ (if l = true then SqL K H a vs else SqT K H a vs) ∧ RepDs K G vs ds ∧ elems t = some (l, ds.map .fr) := by
  unfold seqD at e
  split at e
  · next l ts he =>
    obtain ⟨a, vs, g, rfl, hl, rt, _⟩ := elems_ok hd r he
    have e1 := frs_ok e
    subst e1
    exact ⟨a, vs, l, rfl, hl, rt.ds.1, he⟩
  · cases e
theorem l_list : LeafN K (fun xs H Q => ∃ p ys, xs = [V.ref p] ∧ (SqL K H p ys ∨ SqT K H p ys) ∧ ∀ l, H l = none → Q (.ref l) (upd H l (.lst ys))) (o1 oList) := leaf1 fun G H v t f P Q hd lk r hw k => by
  unfold oList at hw
  split at hw
  · next ds e =>
    obtain ⟨a, vs, l, rfl, hl, rd, _⟩ := seqD_ok hd r e
    refine ⟨a, vs, rfl, by cases l with | true => exact .inl hl | false => exact .inr hl, fun q hq => ?_⟩
    have z := newLst (K := K) hd hq rd
    exact k _ _ [] _ _ z.1 (.fr z.2) noFp hw
  · exact hw.elim
theorem l_tuple : LeafN K (fun xs H Q => ∃ p ys, xs = [V.ref p] ∧ ((SqL K H p ys ∧ ∀ l, H l = none → Q (.ref l) (upd H l (.tup ys))) ∨ (SqT K H p ys ∧ Q (.ref p) H))) (o1 oTuple) := leaf1 fun G H v t f P Q hd lk r hw k => by
  unfold oTuple at hw
  split at hw
  · next ds e =>
    obtain ⟨a, vs, l, rfl, hl, rd, he⟩ := seqD_ok hd r e
    cases l with
    | true =>
      refine ⟨a, vs, rfl, .inl ⟨hl, fun q hq => ?_⟩⟩
      have z := newTup (K := K) hd hq rd
      exact k _ _ [] _ _ z.1 (.fr z.2) noFp hw
    | false =>
      refine ⟨a, vs, rfl, .inr ⟨hl, ?_⟩⟩
      cases t with
      | fr d =>
        obtain ⟨r9, rfl⟩ := r.d
        cases d with
        | tup es =>
          have : es = ds := by
            have e2 : frs (es.map T.fr) = some ds := e
            rw [frs_map] at e2
            exact Option.some.inj e2
          subst this
          exact k _ _ [] G H (Ext.refl hd) (.fr r9) noFp hw
        | _ => cases he
      | tup us =>
        have e1 := frs_ok (show frs us = some ds from e)
        subst e1
        cases r with
        | tup h1 r1 => exact k _ _ [] G H (Ext.refl hd) (.fr (.tup h1 r1.ds.1)) noFp hw
      | _ => cases he
  · exact hw.elim
end
end TL
set_option Elab.async false
set_option linter.all false
set_option maxRecDepth 100000
set_option maxHeartbeats 1000000
/-! TL11: lists of our own, in slots. -/
namespace TL
open PySem PySem.Spec PyProof.Rows L2
abbrev TWN := Rho → (List D → Prop) → Prop
def liftN (K : PySem.W.Frag) (c : Nat) (w : TWN) : TE := fun σ H Q => ∃ G ρ fp P, Holds G H ∧ RepS K G H σ ρ fp ∧ G.n + c ≤ LIM ∧ w ρ P ∧
  ∀ p vs ds G' H', Ext c G H G' H' → H p = none → G'.obj p = none → H' p = some (.lst vs) → RepDs K G' vs ds → LenOk K H' → P ds → Q (.ref p) H'
def WN (X : Cx) (c : Nat) (e : Expr) (w : TWN) : Prop := PE X e (liftN X.K c w)
section
variable {K : PySem.W.Frag} {Z : Ctx} {G G' : Gh} {H H' : Hp} {σ : L2.St} {ρ : Rho} {c : Nat}
theorem repS_there : ∀ {σ : L2.St} {ρ : Rho} {fp : Fps}, RepS K G H σ ρ fp → ∀ q ∈ fp, H q.2 ≠ none
  | _, _, _, .nil => fun _ z => nomatch z
  | _, _, _, .no s => repS_there s
  | _, _, _, .so r s => fun q hq => (List.mem_append.mp hq).elim (repT_there r q) (repS_there s q)
/-- a slot of which nothing is known is stored -/
theorem RepS.put {v : V} {t : T} {f : Fps} (r : RepT K G H v t f) : ∀ {σ : L2.St} {ρ : Rho} {fp : Fps} (i : Nat), RepS K G H σ ρ fp → i < ρ.length → TL.look ρ i = none → ∃ f1 f2, fp = f1 ++ f2 ∧ RepS K G H (σ.set i (some v)) (ρ.set i (some t)) (f1 ++ (f ++ f2))
  | _, _, _, _, .nil, h, _ => nomatch h
  | _, _, _, 0, .no s, _, _ => ⟨[], _, rfl, show RepS K G H _ _ (f ++ _) from .so r s⟩
  | _, _, _, 0, .so _ s, _, h => nomatch h
  | _, _, _, i + 1, .no s, hl, h => by
    obtain ⟨f1, f2, e, q⟩ := RepS.put r i s (by simpa using hl) h
    exact ⟨f1, f2, e, .no q⟩
  | _, _, _, i + 1, .so (f := f0) r0 s, hl, h => by
    obtain ⟨f1, f2, rfl, q⟩ := RepS.put r i s (by simpa using hl) h
    exact ⟨f0 ++ f1, f2, by rw [List.append_assoc], by rw [List.append_assoc]; exact .so r0 q⟩
/-- one slot, and all others -/
theorem RepS.split : ∀ {σ : L2.St} {ρ : Rho} {fp : Fps} (i : Nat) {t : T}, RepS K G H σ ρ fp → TL.look ρ i = some t → ∃ v f1 f f2, fp = f1 ++ (f ++ f2) ∧ σ[i]? = some (some v) ∧ RepT K G H v t f ∧
    ∀ (G' : Gh) (H' : Hp) (t' : T) (f' : Fps), (∀ a g, G.obj a = some g → G'.obj a = some g) → (∀ q ∈ f1 ++ f2, ∀ o, H q.2 = some o → G.obj q.2 = none → H' q.2 = some o ∧ G'.obj q.2 = none) → RepT K G' H' v t' f' → RepS K G' H' σ (ρ.set i (some t')) (f1 ++ (f' ++ f2))
  | _, _, _, _, _, .nil, h => nomatch h
  | _, _, _, 0, _, .no s, h => nomatch h
  | _, _, _, 0, _, .so (v := v) (f := f) (g := g) r s, h => by
    cases h
    refine ⟨v, [], f, g, rfl, rfl, r, fun G' H' t' f' sb k r' => show RepS K G' H' _ _ (f' ++ g) from .so r' ?_⟩
    replace k : ∀ q ∈ g, ∀ o, H q.2 = some o → G.obj q.2 = none → H' q.2 = some o ∧ G'.obj q.2 = none := k
    clear r r'
    induction s with
    | nil => exact .nil
    | no s ih => exact .no (ih k)
    | so r1 s ih => exact .so (r1.mono sb fun q hq => k q (List.mem_append_left _ hq)) (ih fun q hq => k q (List.mem_append_right _ hq))
  | _, _, _, i + 1, _, .no s, h => by
    obtain ⟨v, f1, f, f2, e, e2, r, k⟩ := RepS.split i s h
    exact ⟨v, f1, f, f2, e, by simpa using e2, r, fun G' H' t' f' sb kk r' => .no (k G' H' t' f' sb kk r')⟩
  | _, _, _, i + 1, _, .so (f := f0) r0 s, h => by
    obtain ⟨v, f1, f, f2, rfl, e2, r, k⟩ := RepS.split i s h
    refine ⟨v, f0 ++ f1, f, f2, by rw [List.append_assoc], by simpa using e2, r, fun G' H' t' f' sb kk r' => ?_⟩
    rw [List.append_assoc]
    exact .so (r0.mono sb fun q hq => kk q (by rw [List.append_assoc]; exact List.mem_append_left _ hq)) (k G' H' t' f' sb (fun q hq => kk q (by rw [List.append_assoc]; exact List.mem_append_right _ hq)) r')
theorem StOk.forget (s : StOk K Z G H σ ρ) (i : Nat) : StOk K Z G H σ (ρ.set i none) := by
  obtain ⟨fp, r, n, m, l⟩ := s.rep
  obtain ⟨fp', r', sb⟩ := r.forget i
  refine ⟨s.hd, ⟨fp', r', ?_, fun a ha => m a (sb.subset ha), fun a ha => l a (sb.subset ha)⟩, s.sub, s.new, s.keep, s.there, s.lo, fun j u w e1 e2 e3 => ?_⟩
  · unfold mines at n ⊢
    exact ((sb.filter _).map _).nodup n
  · by_cases h : i = j
    · subst h
      rcases look_set_eq ρ i none with q | q <;> (rw [q] at e2; cases e2)
    · rw [look_set_ne ρ i j _ h] at e2
      exact s.pin j u w e1 e2 e3
theorem look_set_none : ∀ (ρ : Rho) (i : Nat), look (ρ.set i none) i = none
  | [], _ => rfl
  | _ :: _, 0 => rfl
  | _ :: ρ, i + 1 => look_set_none ρ i
/-- a new list of our own, in a slot -/
theorem StOk.setOwn (s : StOk K Z G H σ ρ) (x : Ext c G H G' H') {p : Addr} {vs : List V} {ds : List D} (hp : H p = none) (hg : G'.obj p = none) (hl : H' p = some (.lst vs)) (rd : RepDs K G' vs ds) (i : Nat) (hi : i < ρ.length) (hz : Z.pins.length ≤ i) :
    StOk K Z G' H' (σ.set i (some (.ref p))) (ρ.set i (some (.lst true (ds.map .fr)))) := by
  have s0 := s.forget i
  have s1 := s0.ext x
  obtain ⟨fp, r, n, m, l⟩ := s0.rep
  have rt : RepT K G' H' (.ref p) (.lst true (ds.map .fr)) ((true, p) :: []) := .lst hl hg rd.ts
  obtain ⟨f1, f2, rfl, q⟩ := RepS.put rt i (r.ext x) (by simpa using hi) (look_set_none ρ i)
  rw [List.set_set] at q
  have np : ∀ q ∈ f1 ++ f2, q.2 ≠ p := fun q hq e => repS_there r q hq (e ▸ hp)
  have h0 : Z.H0 p = none := by
    cases q : Z.H0 p with
    | none => rfl
    | some o => exact absurd hp (s.there p (by rw [q]; exact fun z => nomatch z))
  refine ⟨s1.hd, ⟨_, q, ?_, fun a ha => ?_, fun a ha => ?_⟩, s1.sub, s1.new, s1.keep, s1.there, s1.lo, fun j u w e1 e2 e3 => ?_⟩
  · rw [mines_app] at n
    rw [mines_app, mines_app]
    show (mines f1 ++ ([p] ++ mines f2)).Nodup
    have n1 := List.nodup_append.mp n
    refine List.nodup_append.mpr ⟨n1.1, List.nodup_cons.mpr ⟨fun h => np _ (List.mem_append_right _ (mem_mines.mp h)) rfl, n1.2.1⟩, fun a ha b hb => ?_⟩
    rcases List.mem_cons.mp hb with rfl | hb
    · exact fun e => np _ (List.mem_append_left _ (mem_mines.mp ha)) e
    · exact n1.2.2 a ha b hb
  · rcases List.mem_append.mp ha with h | h
    · exact m a (List.mem_append_left _ h)
    · rcases List.mem_append.mp h with h | h
      · cases List.mem_singleton.mp h; exact h0
      · exact m a (List.mem_append_right _ h)
  · rcases List.mem_append.mp ha with h | h
    · exact l a (List.mem_append_left _ h)
    · rcases List.mem_append.mp h with h | h
      · cases List.mem_singleton.mp h
      · exact l a (List.mem_append_right _ h)
  · have h : i ≠ j := fun h => by
      subst h
      rw [List.getElem?_eq_none hz] at e1; cases e1
    rw [look_set_ne ρ i j _ h] at e2
    rw [List.getElem?_set_ne h]
    exact s.pin j u w e1 e2 e3
/-- our own list in a slot is changed -/
theorem StOk.chg (s : StOk K Z G H σ ρ) {i : Nat} {ts : List T} (e : look ρ i = some (.lst true ts)) :
    ∃ a vs g, σ[i]? = some (some (.ref a)) ∧ H a = some (.lst vs) ∧ G.obj a = none ∧ RepTs K G H vs ts g ∧ (∀ q ∈ g, q.2 ≠ a) ∧
      ∀ (ts' : List T) (vs' : List V) (f' : Fps), RepTs K G H vs' ts' f' → (∀ q ∈ f', q.2 ≠ a) → (mines f').Sublist (mines g) → (∀ q ∈ f', q ∈ g ∨ (q.1 = false ∧ Z.H0 q.2 ≠ none)) → StOk K Z G (upd H a (.lst vs')) σ (ρ.set i (some (.lst true ts'))) := by
  obtain ⟨fp, r, n, m, l⟩ := s.rep
  obtain ⟨v, f1, f, f2, rfl, e2, rt, k⟩ := RepS.split i r e
  cases rt with
  | lst h ng rt =>
    rename_i a vs g
    have ma : (true, a) ∈ f1 ++ ((true, a) :: g ++ f2) := List.mem_append_right _ (List.mem_append_left _ (List.mem_cons_self ..))
    have own := m a ma
    have nm : (mines f1 ++ (a :: mines g ++ mines f2)).Nodup := by
      have := n
      rw [mines_app, mines_app] at this
      exact this
    have n1 := List.nodup_append.mp nm
    have n2 := List.nodup_cons.mp (show (a :: (mines g ++ mines f2)).Nodup from n1.2.1)
    have other : ∀ q ∈ f1 ++ f2, q.2 ≠ a := fun q hq e => by
      obtain ⟨b, q2⟩ := q
      have e2 : a = q2 := e.symm
      subst e2
      cases b with
      | true =>
        rcases List.mem_append.mp hq with h1 | h1
        · exact n1.2.2 a (mem_mines.mpr h1) a (List.mem_cons_self ..) rfl
        · exact n2.1 (List.mem_append_right _ (mem_mines.mpr h1))
      | false =>
        have h1 := l a ((List.mem_append.mp hq).elim (List.mem_append_left _) fun z => List.mem_append_right _ (List.mem_append_right _ z))
        exact h1 own
    have inner : ∀ q ∈ g, q.2 ≠ a := fun q hq e => by
      obtain ⟨b, q2⟩ := q
      have e2 : a = q2 := e.symm
      subst e2
      cases b with
      | true => exact n2.1 (List.mem_append_left _ (mem_mines.mpr hq))
      | false =>
        have h1 := l a (List.mem_append_right _ (List.mem_append_left _ (List.mem_cons_of_mem _ hq)))
        exact h1 own
    refine ⟨a, vs, g, e2, h, ng, rt, inner, fun ts' vs' f' r' na sl mem => ?_⟩
    have keepO : ∀ b o, b ≠ a → H b = some o → upd H a (.lst vs') b = some o := fun b o nb e => by rw [upd_ne nb]; exact e
    have r2 : RepTs K G (upd H a (.lst vs')) vs' ts' f' := r'.mono (fun _ _ e => e) fun q hq o e ng => ⟨keepO _ _ (na q hq) e, ng⟩
    have q := k G (upd H a (.lst vs')) (.lst true ts') ((true, a) :: f') (fun _ _ e => e) (fun q hq o e ng => ⟨keepO _ _ (other q hq) e, ng⟩) (.lst upd_same ng r2)
    refine ⟨s.hd.upd ng (fun o e => by rw [h] at e; cases e; exact plain_lst) _, ⟨_, q, ?_, fun b hb => ?_, fun b hb => ?_⟩, s.sub, s.new, fun b o e nr => ?_, fun b nb => ?_, s.lo, fun j u w e4 e5 e6 => ?_⟩
    · rw [mines_app, mines_app]
      show (mines f1 ++ (a :: mines f' ++ mines f2)).Nodup
      refine List.Sublist.nodup ?_ nm
      exact List.Sublist.append (List.Sublist.refl _) (List.Sublist.append (List.Sublist.cons₂ _ sl) (List.Sublist.refl _))
    · rcases List.mem_append.mp hb with h1 | h1
      · exact m b (List.mem_append_left _ h1)
      · rcases List.mem_append.mp h1 with h1 | h1
        · rcases List.mem_cons.mp h1 with h1 | h1
          · cases h1; exact own
          · rcases mem _ h1 with h2 | h2
            · exact m b (List.mem_append_right _ (List.mem_append_left _ (List.mem_cons_of_mem _ h2)))
            · cases h2.1
        · exact m b (List.mem_append_right _ (List.mem_append_right _ h1))
    · rcases List.mem_append.mp hb with h1 | h1
      · exact l b (List.mem_append_left _ h1)
      · rcases List.mem_append.mp h1 with h1 | h1
        · rcases List.mem_cons.mp h1 with h1 | h1
          · cases h1
          · rcases mem _ h1 with h2 | h2
            · exact l b (List.mem_append_right _ (List.mem_append_left _ (List.mem_cons_of_mem _ h2)))
            · exact h2.2
        · exact l b (List.mem_append_right _ (List.mem_append_right _ h1))
    · refine keepO b o (fun z => ?_) (s.keep b o e nr)
      subst z
      rw [e] at own; cases own
    · by_cases z : b = a
      · rw [z, upd_same]; exact fun z => nomatch z
      · rw [upd_ne z]; exact s.there b nb
    · by_cases h : i = j
      · subst h; exact s.pin i u _ e4 e rfl
      · rw [look_set_ne ρ i j _ h] at e5
        exact s.pin j u w e4 e5 e6
end
section
variable {X : Cx} {e : Expr} {es : List Expr} {pos pos' : Pos} {np : Np} {c ca cb : Nat} {w : TW} {ws : TWs} {wn : TWN}
/-- name = a new list that we may change -/
def sOwn (i : Nat) (w : TWN) : TSW := fun E ρ => i < ρ.length ∧ w ρ fun ds => E.nx (ρ.set i (some (.lst true (ds.map .fr))))
theorem ws_own {i : Nat} {x : Str} (hN : X.N.Nodup) (hi : X.N[i]? = some x) (hx : Loc X.env.scope x) (he : WN X c e wn) (hz : np.n ≤ i) (hs : swapsWith e (some (.Name x pos')) pos.line X.env = pure false := by rfl) (hf : X.fn x = true ∨ X.env.scope.names.lookup x = some .local := by first | exact .inl rfl | exact .inr rfl | assumption) :
    WS X np c (.Assign [.Name x pos'] e pos) (sOwn i wn) := PS.imp (ps_set hN hi hx he hs hf) fun D σ H ⟨Z, G, ρ, E, hZ, s, hn, hw, g⟩ => by
  obtain ⟨fp, r, n, m, l⟩ := s.rep
  exact ⟨G, ρ, fp, _, s.hd, r, hn, hw.2, fun p vs ds G' H' x hp hg hl rd lk q => g.nx _ _ G' H' (s.setOwn x hp hg hl rd i hw.1 (by rw [hZ]; exact hz)) x.hi q⟩
def nLst (ws : TWs) : TWN := fun ρ P => ws ρ fun ts => ts.length ≤ 1000 ∧ match frs ts with
  | some ds => P ds
  | none => False
theorem wn_lst (h : WA X c es ws) : WN X c (.List es pos) (nLst ws) := PE.imp (pe_lst h) fun σ H Q ⟨G, ρ, fp, P, hd, rs, hn, hw, k⟩ => by
  refine ⟨G, ρ, fp, _, hd, rs, hn, hw, fun vs ts f G1 H1 x1 r1 f1 lk p => ?_⟩
  refine ⟨by rw [r1.length]; exact le_line p.1, fun q hq lk2 => ?_⟩
  have p2 := p.2
  split at p2
  · next ds hds =>
    have e1 := frs_ok hds
    subst e1
    obtain ⟨rd, rfl⟩ := r1.ds
    have hqH : H q = none := x1.back_none hq
    have ow := Ext.own x1.hd hq (.lst vs)
    exact k q vs ds G1 _ ((x1.trans ow).more (by omega)) hqH (x1.hd.free hq) upd_same rd lk2 p2
  · exact p2.elim
/-- xs.append(e), xs a list of our own in slot i -/
def sAppend (i : Nat) (w : TW) : TSW := fun E ρ => match look ρ i with
  | some (.lst true ts) => w ρ (asD fun d => ts.length < sizeLine ∧ E.nx (ρ.set i (some (.lst true (ts ++ [.fr d])))))
  | _ => False
theorem RepTs.app {K : PySem.W.Frag} {G : Gh} {H : Hp} {v : V} {d : D} : ∀ {vs : List V} {ts : List T} {f : Fps}, RepTs K G H vs ts f → RepD K G v d → RepTs K G H (vs ++ [v]) (ts ++ [.fr d]) f
  | _, _, _, .nil, r => .cons (f := []) (.fr r) .nil
  | _, _, _, .cons q t, r => .cons q (RepTs.app t r)
theorem ws_append {i : Nat} {o : Expr} {apos : Pos} (ho : PE X o (tVar i)) (he : WE X c e w)
    (hs : swapsWith (.Call (.Attribute o "append" apos) [e] [] pos') none pos.line X.env = pure false := by rfl)
    (hbase : attributeBase o "append" X.env (eval o X.env) = eval o X.env := by rfl)
    (hfew : ((backTo pos' (starEach [e] X.env)).all (fun x => !x.1) && (backToKw pos' (keywordEach [] X.env)).all (fun x => x.1.isSome) && decide ([e].length + ([] : List Keyword).length + (if ([] : List Keyword).isEmpty then 0 else 1) < 30)) = true := by rfl)
    (hline : (apos.endLine == pos'.line) = true := by rfl) (hse : starEach [e] X.env = (false, eval e X.env) :: starEach [] X.env := by rfl) (hpl : (backTo pos' (starEach [] X.env)).any (·.1) = false := by rfl) :
    WS X np c (.Expr (.Call (.Attribute o "append" apos) [e] [] pos') pos) (sAppend i w) :=
  PS.imp (ps_expr (pe_bm PySem.F.plainAttrs_list PySem.F.slot_list_append PySem.F.type_list_append (show MtR X "list.append" rAppend from mt_append) ho (pa_cons he pa_nil hse) hbase hfew hline hse hpl) hs) fun D σ H ⟨Z, G, ρ, E, hZ, s, hn, hw, g⟩ => by
  unfold sAppend at hw
  split at hw
  · next ts hl =>
    obtain ⟨a, vs, f, e1, h1, ng, rt, _⟩ := s.chg hl
    refine ⟨.ref a, e1, .inl ⟨rfl, vs, SqL.of h1⟩, ?_⟩
    refine s.ev hn hw fun v t f1 G1 H1 s1 x1 r1 p => ?_
    obtain ⟨d, rfl, rd, hz, p⟩ := isD r1 p
    obtain ⟨a2, vs2, g2, e2, h2, ng2, rt2, na, kk⟩ := s1.chg hl
    rw [e1] at e2
    cases e2
    have h3 := x1.stay h1 ng
    rw [h3.1] at h2
    cases h2
    exact ⟨a, vs, v, rfl, rfl, h3.1, by rw [rt.length]; exact hz, g.nx _ _ G1 _ (kk (ts ++ [.fr d]) (vs ++ [v]) g2 (rt2.app rd) na (List.Sublist.refl _) fun q hq => .inl hq) x1.hi p⟩
  · exact hw.elim
end
end TL
set_option Elab.async false
set_option linter.all false
set_option maxRecDepth 100000
set_option maxHeartbeats 1000000
/-! TL12: defs by their names. -/
namespace TL
open PySem PySem.Spec PyProof.Rows L2
/-- the def st stands under the name x -/
def At (K : PySem.W.Frag) (mg : Str → Option Value) (x q : Str) (st : Stmt) : Prop := ∃ f fd, FunD K q q (defArgs st) (defBody st) (defScope st) [] [] f fd ∧ mg x = some (.ref f)
/-- the name x stands for a def that keeps the promise S -/
structure Fn (P : Program) (w : World) (K : PySem.W.Frag) (mg : Str → Option Value) (base : Heap) (x : Str) (k n c : Nat) (S : List T → (D → Prop) → Prop) : Prop where
  ex : ∃ CX f fd ps, (∀ X : Cx, X.prog = P → X.w = w → Passes CX X fun _ _ _ => False) ∧ FnOk P w K mg base CX k f fd ps (spP K n c S) ∧ mg x = some (.ref f) ∧ PySem.W.keepIn K (.ref f) = true ∧ Binds K fd ps []
section
variable {X : Cx} {e : Expr} {es : List Expr} {pos : Pos} {c n k k' ca : Nat} {ws : TWs} {S : List T → (D → Prop) → Prop} {x : Str} {p : Pos}
theorem we_fn (F : Fn X.prog X.w X.K X.mg X.base x k n c S) (hr : Room k' X.A) (hk : k ≤ k') (hg : Gl X x) (ha : WA X ca (e :: es) ws) (hdb : (x == ("__debug__" : Str)) = false := by decide) (he : starEach (e :: es) X.env = (false, eval e X.env) :: starEach es X.env := by rfl) (hpl : (backTo pos (starEach es X.env)).any (·.1) = false := by rfl) :
    WE X (ca + c) (.Call (.Name x p) (e :: es) [] pos) (wCall n S ws) :=
  let ⟨_, _, _, _, ps, ok, hm, kp, b⟩ := F.ex
  we_call ok (hr.mono hk) hg hm kp b (ps X rfl rfl) ha hdb he hpl
end
theorem spP_more {K : PySem.W.Frag} {n c c' : Nat} {S : List T → (D → Prop) → Prop} (h : c' ≤ c) {vs : List V} {H : Hp} {Q : VK} {E : XK} (q : spP K n c S vs H Q E) : spP K n c' S vs H Q E := by
  obtain ⟨G, ts, fp, P, hd, r, l, hl, hc, hS, k⟩ := q
  exact ⟨G, ts, fp, P, hd, r, l, hl, by omega, hS, fun v d G' H' x => k v d G' H' (x.more h)⟩
theorem Fn.of {P : Program} {w : World} {K : PySem.W.Frag} {mg : Str → Option Value} {base : Heap} {x q : Str} {st : Stmt} {N ps : List Str} {k n c c' : Nat} {S : List T → (D → Prop) → Prop} {W : TSW} (A : At K mg x q st) (Sc : FnScope N ps (defScope st))
    (hb : ∀ (kV doc pm : Value) (an : Option Addr) (cdv ct : Value) (us : List Value), us.length = ps.length → bindArgs (PySem.W.fnOf q q (defArgs st) (defBody st) (defScope st) .none kV doc pm an cdv ct) ⟨us, []⟩ = pure (ps.zip us)) (hn : n = ps.length) (hc : c' ≤ c)
    (hbody : ∀ (f : Addr) (cdv : Value) (A : Around) (outer : List Env) (s : Shared) (H : Hp) (E : XK), Room k (A.deeper (envOfC q (defScope st) s.heap.objs.size f cdv)) → WSs (cxOf CX0 P w K mg base N q (defScope st) f cdv A outer s H E).nox ⟨0, fun _ _ _ _ => False⟩ c' (defBody st) W)
    (hs : ∀ ts Q, ts.length = n → S ts Q → W { nx := fun _ => Q .non, rt := fun t _ => asD Q t } (rho N.length ts)) : Fn P w K mg base x (k + 1) n c S := by
  obtain ⟨f, fd, F, hm⟩ := A
  have ok := def_ok (P := P) (w := w) (mg := mg) (base := base) (k := k) (n := n) (c := c') (S := S) F Sc hn (hbody f) hs
  exact ⟨CX0, f, fd, ps, fun X _ _ => pass0, ok.imp fun vs H Q E q => spP_more hc q, hm, F.kp, F.bindsN hb⟩
end TL
set_option Elab.async false
set_option linter.all false
set_option maxRecDepth 100000
set_option maxHeartbeats 1000000
/-! TL13: own lists handed back, extended; op=. -/
namespace TL
open PySem PySem.Spec PyProof.Rows L2
section
variable {X : Cx} {e : Expr} {es : List Expr} {pos pos' : Pos} {np : Np} {c ca cb : Nat} {w : TW} {ws : TWs} {wn : TWN}
/-- a list of our own stands still from now on -/
theorem StOk.freeze {K : PySem.W.Frag} {Z : Ctx} {G : Gh} {H : Hp} {σ : L2.St} {ρ : Rho} (s : StOk K Z G H σ ρ) {i : Nat} {ts : List T} {ds : List D} (e : look ρ i = some (.lst true ts)) (hf : frs ts = some ds) :
    ∃ a G', σ[i]? = some (some (.ref a)) ∧ StOk K Z G' H σ (ρ.set i (some (.fr (.lst ds)))) ∧ G'.n = G.n ∧ RepD K G' (.ref a) (.lst ds) := by
  obtain ⟨fp, r, n, m, l⟩ := s.rep
  obtain ⟨v, f1, f, f2, rfl, e2, rt, k⟩ := RepS.split i r e
  have e1 := frs_ok hf
  subst e1
  cases rt with
  | lst h ng rt =>
    rename_i a vs g
    obtain ⟨rd, rfl⟩ := rt.ds
    have ma : (true, a) ∈ f1 ++ ((true, a) :: [] ++ f2) := List.mem_append_right _ (List.mem_append_left _ (List.mem_cons_self ..))
    have own : Z.H0 a = none := m a ma
    have nm : (mines f1 ++ (a :: mines f2)).Nodup := by
      have := n
      rw [mines_app, mines_app] at this
      exact this
    have n1 := List.nodup_append.mp nm
    have n2 := List.nodup_cons.mp n1.2.1
    have other : ∀ q ∈ f1 ++ f2, q.2 ≠ a := fun q hq e => by
      obtain ⟨b, q2⟩ := q
      have e2 : a = q2 := e.symm
      subst e2
      cases b with
      | true =>
        rcases List.mem_append.mp hq with h1 | h1
        · exact n1.2.2 a (mem_mines.mpr h1) a (List.mem_cons_self ..) rfl
        · exact n2.1 (mem_mines.mpr h1)
      | false =>
        have h1 := l a ((List.mem_append.mp hq).elim (List.mem_append_left _) fun z => List.mem_append_right _ (List.mem_append_right _ z))
        exact h1 own
    have sb : ∀ b g, G.obj b = some g → (G.put a (.ho (.lst vs))).obj b = some g := fun b g e => by
      have q : b ≠ a := fun z => by subst z; rw [ng] at e; cases e
      simp only [Gh.put, if_neg q]; exact e
    have rd2 : RepD K (G.put a (.ho (.lst vs))) (.ref a) (.lst ds) := .lst Gh.put_same (rd.mono sb)
    have q := k (G.put a (.ho (.lst vs))) H (.fr (.lst ds)) [] sb (fun q hq o e ng => ⟨e, by simp only [Gh.put, if_neg (other q hq)]; exact ng⟩) (.fr rd2)
    refine ⟨a, G.put a (.ho (.lst vs)), e2, ⟨s.hd.frz ng h, ⟨_, q, ?_, fun b hb => ?_, fun b hb => ?_⟩, fun b g e => sb b g (s.sub b g e), fun b e z => ?_, s.keep, s.there, s.lo, fun j u w e4 e5 e6 => ?_⟩, rfl, rd2⟩
    · rw [mines_app, mines_app]
      exact List.Sublist.nodup (List.Sublist.append (List.Sublist.refl _) (List.sublist_cons_self _ _)) nm
    · rcases List.mem_append.mp hb with h1 | h1
      · exact m b (List.mem_append_left _ h1)
      · exact m b (List.mem_append_right _ (List.mem_append_right _ h1))
    · rcases List.mem_append.mp hb with h1 | h1
      · exact l b (List.mem_append_left _ h1)
      · exact l b (List.mem_append_right _ (List.mem_append_right _ h1))
    · by_cases q : b = a
      · subst q; exact own
      · simp only [Gh.put, if_neg q] at z; exact s.new b e z
    · by_cases h : i = j
      · subst h
        rcases look_set_eq ρ i (some (.fr (.lst ds))) with q | q <;> (rw [q] at e5; cases e5)
        cases e6
      · rw [look_set_ne ρ i j _ h] at e5
        exact s.pin j u w e4 e5 e6
/-- return name, of a list of our own -/
def sRetOwn (i : Nat) : TSW := fun E ρ => match look ρ i with
  | some (.lst true ts) => match frs ts with
    | some ds => E.rt (.fr (.lst ds)) (ρ.set i (some (.fr (.lst ds))))
    | none => False
  | _ => False
theorem ws_retOwn {i : Nat} (ho : PE X e (tVar i)) : WS X np 0 (.Return (some e) pos) (sRetOwn i) := PS.imp (ps_ret ho) fun D σ H ⟨Z, G, ρ, E, hZ, s, hn, hw, g⟩ => by
  unfold sRetOwn at hw
  split at hw
  · next ts hl =>
    split at hw
    · next ds hds =>
      obtain ⟨a, G', e1, s', en, rd⟩ := s.freeze hl hds
      exact ⟨.ref a, e1, g.rt _ _ σ _ G' H (Res.ofD s' rd) (by rw [en]; exact Nat.le_add_right _ _) hw⟩
    · exact hw.elim
  · exact hw.elim
/-- a list of our own in slot i stands still from now on: at the end of a block (nothing is done) -/
def sFreeze (i : Nat) (W : TSW) : TSW := fun E ρ => match look ρ i with
  | some (.lst true ts) => match frs ts with
    | some ds => W E (ρ.set i (some (.fr (.lst ds))))
    | none => False
  | _ => False
theorem wss_freeze {i : Nat} {sts : List Stmt} {W : TSW} (h : WSs X np c sts W) : WSs X np c sts (sFreeze i W) := PSs.imp h fun D σ H ⟨Z, G, ρ, E, hZ, s, hn, hw, g⟩ => by
  unfold sFreeze at hw
  split at hw
  · next ts hl =>
    split at hw
    · next ds hds =>
      obtain ⟨a, G', e1, s', en, rd⟩ := s.freeze hl hds
      exact ⟨Z, G', _, E, hZ, s', by rw [en]; exact hn, hw, by rw [en]; exact g⟩
    · exact hw.elim
  · exact hw.elim
/-- xs.extend(e) -/
def sExtend (i : Nat) (w : TW) : TSW := fun E ρ => match look ρ i with
  | some (.lst true ts) => w ρ (asD fun d => match d with
    | D.lst ds => ts.length + ds.length ≤ sizeLine ∧ E.nx (ρ.set i (some (.lst true (ts ++ ds.map .fr))))
    | _ => False)
  | _ => False
theorem RepTs.apps {K : PySem.W.Frag} {G : Gh} {H : Hp} {ws : List V} {ds : List D} (r : RepDs K G ws ds) : ∀ {vs : List V} {ts : List T} {f : Fps}, RepTs K G H vs ts f → RepTs K G H (vs ++ ws) (ts ++ ds.map .fr) f
  | _, _, _, .nil => r.ts
  | _, _, _, .cons q t => .cons q (RepTs.apps r t)
theorem ws_extend {i : Nat} {o : Expr} {apos : Pos} (ho : PE X o (tVar i)) (he : WE X c e w)
    (hs : swapsWith (.Call (.Attribute o "extend" apos) [e] [] pos') none pos.line X.env = pure false := by rfl)
    (hbase : attributeBase o "extend" X.env (eval o X.env) = eval o X.env := by rfl)
    (hfew : ((backTo pos' (starEach [e] X.env)).all (fun x => !x.1) && (backToKw pos' (keywordEach [] X.env)).all (fun x => x.1.isSome) && decide ([e].length + ([] : List Keyword).length + (if ([] : List Keyword).isEmpty then 0 else 1) < 30)) = true := by rfl)
    (hline : (apos.endLine == pos'.line) = true := by rfl) (hse : starEach [e] X.env = (false, eval e X.env) :: starEach [] X.env := by rfl) (hpl : (backTo pos' (starEach [] X.env)).any (·.1) = false := by rfl) :
    WS X np c (.Expr (.Call (.Attribute o "extend" apos) [e] [] pos') pos) (sExtend i w) :=
  PS.imp (ps_expr (pe_bm PySem.F.plainAttrs_list PySem.F.slot_list_extend PySem.F.type_list_extend (show MtR X "list.extend" rExtend from mt_extend) ho (pa_cons he pa_nil hse) hbase hfew hline hse hpl) hs) fun D σ H ⟨Z, G, ρ, E, hZ, s, hn, hw, g⟩ => by
  unfold sExtend at hw
  split at hw
  · next ts hl =>
    obtain ⟨a, vs, f, e1, h1, ng, rt, _⟩ := s.chg hl
    refine ⟨.ref a, e1, .inl ⟨rfl, vs, SqL.of h1⟩, ?_⟩
    refine s.ev hn hw fun v t f1 G1 H1 s1 x1 r1 p => ?_
    obtain ⟨d, rfl, rd, p⟩ := isD r1 p
    cases d with
    | lst ds =>
      obtain ⟨b, ws, rfl, hb, _, rds⟩ := rd.lst' s1.hd
      obtain ⟨a2, vs2, g2, e2, h2, ng2, rt2, na, kk⟩ := s1.chg hl
      rw [e1] at e2
      cases e2
      have h3 := x1.stay h1 ng
      rw [h3.1] at h2
      cases h2
      exact ⟨a, b, vs, ws, rfl, rfl, h3.1, hb, by rw [rt.length, rds.length]; exact p.1, g.nx _ _ G1 _ (kk (ts ++ ds.map .fr) (vs ++ ws) g2 (rt2.apps rds) na (List.Sublist.refl _) fun q hq => .inl hq) x1.hi p.2⟩
    | _ => exact p.elim
  · exact hw.elim
/-- list(x), a new list that we may change -/
def nList (ws : TWs) : TWN := fun ρ P => ws ρ fun ts => match ts with
  | [t] => match seqD t with
    | some ds => P ds
    | none => False
  | _ => False
theorem back_none {c : Nat} {G G' : Gh} {H H' : Hp} (hd : Holds G H) (x : Ext c G H G' H') {q : Addr} (hq : H' q = none) : H q = none := x.back_none hq
theorem wn_list {p : Pos} (hg : Gl X "list") (hm : X.mg "list" = none) (ha : WA X c (e :: es) ws) (he : starEach (e :: es) X.env = (false, eval e X.env) :: starEach es X.env := by rfl) (hpl : (backTo pos (starEach es X.env)).any (·.1) = false := by rfl) :
    WN X c (.Call (.Name "list" p) (e :: es) [] pos) (nList ws) := PE.imp (pe_callTy call_list_of hg hm (by decide +kernel) ha (by decide) (by decide) he hpl) fun σ H Q ⟨G, ρ, fp, P, hd, rs, hn, hw, k⟩ => by
  refine ⟨G, ρ, fp, _, hd, rs, hn, hw, fun vs ts f G1 H1 x1 r1 f1 lk p => ?_⟩
  split at p
  · next t =>
    split at p
    · next ds hds =>
      cases r1 with
      | cons r rr =>
        cases rr
        obtain ⟨a, vs, l, rfl, hl, rd, _⟩ := seqD_ok x1.hd r hds
        refine ⟨a, vs, rfl, by cases l with | true => exact .inl hl | false => exact .inr hl, fun q hq lk2 => ?_⟩
        have ow := Ext.own x1.hd hq (.lst vs)
        exact k q vs ds G1 _ ((x1.trans ow).more (by omega)) (back_none hd x1 hq) (x1.hd.free hq) upd_same rd lk2 p
    · exact p.elim
  · exact p.elim
/-- a comprehension's list that we may change -/
def nLcG (C : List T → Prop) (vs : List Nat) (p : Pat) (wi : TWI) (wt : TB) (we : TW) : TWN := fun ρ P => wi ρ fun _ its => C its ∧ ∃ I : Nat → List D → Prop, I 0 [] ∧
  (∀ i t acc, its[i]? = some t → I i acc → match bindP p t (wipeR ρ vs) with
    | some ρ1 => wt ρ1 fun b => if b = true then we ρ1 (asD fun d => I (i + 1) (acc ++ [d])) else I (i + 1) acc
    | none => False) ∧ ∀ acc, I its.length acc → P acc
/-- name += e: whole numbers -/
def sAug (i : Nat) (o : T → T → (T → Prop) → Prop) (w : TW) : TSW := fun E ρ => match look ρ i with
  | some t => w ρ fun u => o t u (asD fun d => E.nx (ρ.set i (some (.fr d))))
  | none => False
end
end TL
set_option Elab.async false
set_option linter.all false
set_option maxRecDepth 100000
set_option maxHeartbeats 1000000
/-! TL14: what the readings come to, case by case (for simp only). -/
namespace TL
open PySem PySem.Spec PyProof.Rows L2
def optP {α : Type} (o : Option α) (P : α → Prop) : Prop := match o with
  | some d => P d
  | none => False
theorem optP_some {α : Type} (d : α) (P : α → Prop) : optP (some d) P = P d := rfl
theorem optP_none {α : Type} (P : α → Prop) : optP none P = False := rfl
section
variable {P : T → Prop} {Q : D → Prop} {R : Bool → Prop} {ρ : Rho} {E : ET}
theorem asB_bl (b : Bool) : asB R (.fr (.bl b)) = R b := rfl
theorem asD_fr (d : D) : asD Q (.fr d) = Q d := rfl
theorem look_0 (o : Option T) (r : Rho) : look (o :: r) 0 = o := rfl
theorem look_s (o : Option T) (r : Rho) (i : Nat) : look (o :: r) (i + 1) = look r i := rfl
theorem wVar_eq (i : Nat) : wVar i ρ P = optP (look ρ i) P := by unfold wVar optP; cases look ρ i <;> rfl
theorem sRet_eq (w : TW) : sRet w E ρ = w ρ (asD fun d => E.rt (.fr d) ρ) := by
  unfold sRet
  congr 1
/-- tuples, lists as displayed -/
theorem tupE (ts : List T) (ds : List D) (h : frs ts = some ds) : (match frs ts with
  | some ds => T.fr (.tup ds)
  | none => .tup ts) = .fr (.tup ds) := by rw [h]
theorem frs_nil : frs [] = some [] := rfl
theorem frs_cons (d : D) (ts : List T) : frs (.fr d :: ts) = (frs ts).map (d :: ·) := by
  show (match frs ts with | some ds => some (d :: ds) | none => none) = _
  cases frs ts <;> rfl
def mkTup (ts : List T) : T := match frs ts with
  | some ds => .fr (.tup ds)
  | none => .tup ts
theorem wTup_eq (ws : TWs) : wTup ws ρ P = ws ρ fun ts => ts.length ≤ 1000 ∧ P (mkTup ts) := rfl
theorem wLst_eq (ws : TWs) : wLst ws ρ P = ws ρ fun ts => ts.length ≤ 1000 ∧ optP (frs ts) fun ds => P (.fr (.lst ds)) := by
  unfold wLst
  congr 1
  funext ts
  unfold optP
  cases frs ts <;> rfl
theorem nLst_eq (ws : TWs) (P : List D → Prop) : nLst ws ρ P = ws ρ fun ts => ts.length ≤ 1000 ∧ optP (frs ts) P := by
  unfold nLst
  congr 1
  funext ts
  unfold optP
  cases frs ts <;> rfl
theorem mkTup_1 (a : D) : mkTup [.fr a] = .fr (.tup [a]) := rfl
theorem mkTup_2 (a b : D) : mkTup [.fr a, .fr b] = .fr (.tup [a, b]) := rfl
theorem mkTup_3 (a b c : D) : mkTup [.fr a, .fr b, .fr c] = .fr (.tup [a, b, c]) := rfl
theorem mkTup_4 (a b c d : D) : mkTup [.fr a, .fr b, .fr c, .fr d] = .fr (.tup [a, b, c, d]) := rfl
theorem mkTup_0 : mkTup [] = .fr (.tup []) := rfl
/-! + - .. -/
theorem oAdd_int (i j : Int) : oAdd (.fr (.int i)) (.fr (.int j)) P = P (.fr (.int (i + j))) := rfl
theorem oAdd_str (a b : List Nat) : oAdd (.fr (.str a)) (.fr (.str b)) P = (a.length + b.length ≤ sizeLine ∧ P (.fr (.str (a ++ b)))) := rfl
theorem oAdd_lst (a b : List D) : oAdd (.fr (.lst a)) (.fr (.lst b)) P = (a.length + b.length ≤ sizeLine ∧ P (.fr (.lst (a ++ b)))) := rfl
theorem oAdd_tup (a : D) (as b : List D) : oAdd (.fr (.tup (a :: as))) (.fr (.tup b)) P = ((a :: as).length + b.length ≤ sizeLine ∧ P (.fr (.tup ((a :: as) ++ b)))) := rfl
theorem oI_int (C : Int → Int → Prop) (g : Int → Int → D) (i j : Int) : oI C g (.fr (.int i)) (.fr (.int j)) P = (C i j ∧ P (.fr (g i j))) := rfl
theorem oI0_int (g : Int → Int → D) (i j : Int) : oI0 g (.fr (.int i)) (.fr (.int j)) P = P (.fr (g i j)) := rfl
theorem oNeg_int (i : Int) : oNeg (.fr (.int i)) P = P (.fr (.int (-i))) := rfl
/-! None -/
theorem isNon_non : isNon (.fr .non) = true := rfl
theorem isNon_int (i : Int) : isNon (.fr (.int i)) = false := rfl
theorem isNon_str (i : List Nat) : isNon (.fr (.str i)) = false := rfl
theorem isNon_bl (i : Bool) : isNon (.fr (.bl i)) = false := rfl
theorem isNon_lst (i : List D) : isNon (.fr (.lst i)) = false := rfl
theorem isNon_tup (i : List D) : isNon (.fr (.tup i)) = false := rfl
theorem oIsN_non (x : T) : oIsN x (.fr .non) P = P (.fr (.bl (isNon x))) := by simp [oIsN]
theorem oNotN_non (x : T) : oNotN x (.fr .non) P = P (.fr (.bl (!isNon x))) := by simp [oNotN]
/-! subscripts -/
theorem atI_nat' {α : Type} (xs : List α) (j : Nat) : atI xs (j : Int) = xs[j]? := by
  unfold atI ixN
  rw [if_pos (by omega)]
  by_cases h : (j : Int) < xs.length
  · rw [if_pos h]; simp
  · rw [if_neg h, List.getElem?_eq_none (by omega)]; rfl
theorem atI_0 {α : Type} (x : α) (xs : List α) : atI (x :: xs) 0 = some x := by simp [atI, ixN]
theorem atI_1 {α : Type} (x y : α) (xs : List α) : atI (x :: y :: xs) 1 = some y := atI_nat' (x :: y :: xs) 1
theorem atI_2 {α : Type} (x y z : α) (xs : List α) : atI (x :: y :: z :: xs) 2 = some z := atI_nat' (x :: y :: z :: xs) 2
theorem atI_3 {α : Type} (x y z u : α) (xs : List α) : atI (x :: y :: z :: u :: xs) 3 = some u := atI_nat' (x :: y :: z :: u :: xs) 3
theorem atI_last' {α : Type} (xs : List α) : atI xs (-1) = xs.getLast? := by
  unfold atI ixN
  rw [if_neg (by omega), List.getLast?_eq_getElem?]
  cases xs with
  | nil => rfl
  | cons x xs =>
    rw [if_pos (by simp only [List.length_cons]; omega)]
    show (x :: xs)[_]? = _
    congr 1
    simp only [List.length_cons]; omega
theorem optP_map {α β : Type} (o : Option α) (g : α → β) (P : β → Prop) : optP (o.map g) P = optP o fun a => P (g a) := by cases o <;> rfl
theorem oIx_lst (ds : List D) (i : Int) : oIx (.fr (.lst ds)) (.fr (.int i)) P = optP (atI ds i) fun d => P (.fr d) := by
  show (match atI (ds.map T.fr) i with | some t => P t | none => False) = _
  rw [atI_map]; cases atI ds i <;> rfl
theorem oIx_tup (ds : List D) (i : Int) : oIx (.fr (.tup ds)) (.fr (.int i)) P = optP (atI ds i) fun d => P (.fr d) := by
  show (match atI (ds.map T.fr) i with | some t => P t | none => False) = _
  rw [atI_map]; cases atI ds i <;> rfl
theorem oIx_scr (ns : List Int) (i : Int) : oIx (.fr (.scr ns)) (.fr (.int i)) P = optP (atI ns i) fun n => P (.fr (.int n)) := by
  show (match atI (ns.map fun i => T.fr (.int i)) i with | some t => P t | none => False) = _
  rw [atI_map]; cases atI ns i <;> rfl
theorem oIx_own (m : Bool) (ts : List T) (i : Int) : oIx (.lst m ts) (.fr (.int i)) P = optP (atI ts i) P := by
  show (match atI ts i with | some t => P t | none => False) = _
  cases atI ts i <;> rfl
theorem oIx_ttup (ts : List T) (i : Int) : oIx (.tup ts) (.fr (.int i)) P = optP (atI ts i) P := by
  show (match atI ts i with | some t => P t | none => False) = _
  cases atI ts i <;> rfl
theorem oIx_str (l : List Nat) (i : Int) : oIx (.fr (.str l)) (.fr (.int i)) P = optP (atI l i) fun c => P (.fr (.str [c])) := by
  show (match atI l i with | some c => P (.fr (.str [c])) | none => False) = _
  cases atI l i <;> rfl
theorem oIx_dkS (kvs : List (KY × D)) (l : List Nat) : oIx (.fr (.dk kvs)) (.fr (.str l)) P = optP (getK kvs (.inr l)) fun d => P (.fr d) := by
  show (match (some ((getK kvs (.inr l)).map T.fr) : Option (Option T)) with | some (some t) => P t | _ => False) = _
  cases getK kvs (Sum.inr l) <;> rfl
theorem oIx_dkI (kvs : List (KY × D)) (l : Int) : oIx (.fr (.dk kvs)) (.fr (.int l)) P = optP (getK kvs (.inl l)) fun d => P (.fr d) := by
  show (match (some ((getK kvs (.inl l)).map T.fr) : Option (Option T)) with | some (some t) => P t | _ => False) = _
  cases getK kvs (Sum.inl l) <;> rfl
/-! in -/
theorem toDs_fr (ds : List D) : T.toDs (ds.map .fr) = ds := by
  induction ds with
  | nil => rfl
  | cons d ds ih => show d :: _ = _; rw [ih]
theorem inT_fr (d : D) (ds : List D) : inT (.fr d) (ds.map .fr) = ds.any fun e => eqD e d := by
  unfold inT
  rw [List.any_map]
  rfl
theorem flat_fr (ds : List D) : (ds.map T.fr).all flatT = ds.all flatD := by rw [List.all_map]; rfl
theorem oIn_seq (l : Bool) (d : D) (t : T) (ds : List D) (h : elems t = some (l, ds.map .fr)) : oIn (.fr d) t P = (flatD d = true ∧ ds.all flatD = true ∧ P (.fr (.bl (ds.any fun e => eqD e d)))) := by
  unfold oIn oInB
  rw [h]
  show (match (if flatT (.fr d) = true ∧ (ds.map T.fr).all flatT = true then some (inT (.fr d) (ds.map T.fr)) else none) with | some b => P (.fr (.bl b)) | none => False) = _
  rw [flat_fr, inT_fr]
  by_cases h1 : flatT (.fr d) = true ∧ ds.all flatD = true
  · rw [if_pos h1]; simp only [eq_iff_iff]; exact ⟨fun q => ⟨h1.1, h1.2, q⟩, fun q => q.2.2⟩
  · rw [if_neg h1]; simp only [eq_iff_iff]; exact ⟨fun q => q.elim, fun q => h1 ⟨q.1, q.2.1⟩⟩
theorem oNotIn_seq (l : Bool) (d : D) (t : T) (ds : List D) (h : elems t = some (l, ds.map .fr)) : oNotIn (.fr d) t P = (flatD d = true ∧ ds.all flatD = true ∧ P (.fr (.bl (!ds.any fun e => eqD e d)))) := by
  unfold oNotIn oInB
  rw [h]
  show (match (if flatT (.fr d) = true ∧ (ds.map T.fr).all flatT = true then some (inT (.fr d) (ds.map T.fr)) else none) with | some b => P (.fr (.bl (!b))) | none => False) = _
  rw [flat_fr, inT_fr]
  by_cases h1 : flatT (.fr d) = true ∧ ds.all flatD = true
  · rw [if_pos h1]; simp only [eq_iff_iff]; exact ⟨fun q => ⟨h1.1, h1.2, q⟩, fun q => q.2.2⟩
  · rw [if_neg h1]; simp only [eq_iff_iff]; exact ⟨fun q => q.elim, fun q => h1 ⟨q.1, q.2.1⟩⟩
theorem oIn_lst (d : D) (ds : List D) : oIn (.fr d) (.fr (.lst ds)) P = (flatD d = true ∧ ds.all flatD = true ∧ P (.fr (.bl (ds.any fun e => eqD e d)))) := oIn_seq true d _ ds rfl
theorem oIn_tup (d : D) (ds : List D) : oIn (.fr d) (.fr (.tup ds)) P = (flatD d = true ∧ ds.all flatD = true ∧ P (.fr (.bl (ds.any fun e => eqD e d)))) := oIn_seq false d _ ds rfl
theorem oNotIn_lst (d : D) (ds : List D) : oNotIn (.fr d) (.fr (.lst ds)) P = (flatD d = true ∧ ds.all flatD = true ∧ P (.fr (.bl (!ds.any fun e => eqD e d)))) := oNotIn_seq true d _ ds rfl
theorem oNotIn_tup (d : D) (ds : List D) : oNotIn (.fr d) (.fr (.tup ds)) P = (flatD d = true ∧ ds.all flatD = true ∧ P (.fr (.bl (!ds.any fun e => eqD e d)))) := oNotIn_seq false d _ ds rfl
theorem oIn_own (m : Bool) (d : D) (ds : List D) : oIn (.fr d) (.lst m (ds.map .fr)) P = (flatD d = true ∧ ds.all flatD = true ∧ P (.fr (.bl (ds.any fun e => eqD e d)))) := oIn_seq true d _ ds rfl
theorem oNotIn_own (m : Bool) (d : D) (ds : List D) : oNotIn (.fr d) (.lst m (ds.map .fr)) P = (flatD d = true ∧ ds.all flatD = true ∧ P (.fr (.bl (!ds.any fun e => eqD e d)))) := oNotIn_seq true d _ ds rfl
theorem oIn_sign (c : Nat) (l : List Nat) : oIn (.fr (.str [c])) (.fr (.str l)) P = P (.fr (.bl (decide (c ∈ l)))) := rfl
theorem oNotIn_sign (c : Nat) (l : List Nat) : oNotIn (.fr (.str [c])) (.fr (.str l)) P = P (.fr (.bl (!decide (c ∈ l)))) := rfl
theorem oIn_dkS (l : List Nat) (kvs : List (KY × D)) : oIn (.fr (.str l)) (.fr (.dk kvs)) P = P (.fr (.bl (getK kvs (.inr l)).isSome)) := by
  show (match oInB (.fr (.str l)) (.fr (.dk kvs)) with | some b => P (.fr (.bl b)) | none => False) = _
  rw [show oInB (.fr (.str l)) (.fr (.dk kvs)) = some (getK kvs (.inr l)).isSome from by
    show (match T.fr (.str l), T.fr (.dk kvs) with
      | .fr (.str [c]), .fr (.str l) => some (decide (c ∈ l))
      | x, y => (dGet y x).map fun o : Option T => o.isSome) = _
    split
    · next h => cases h
    · show (some ((getK kvs (.inr l)).map T.fr)).map (fun o : Option T => o.isSome) = _
      simp]
theorem oNotIn_dkS (l : List Nat) (kvs : List (KY × D)) : oNotIn (.fr (.str l)) (.fr (.dk kvs)) P = P (.fr (.bl (!(getK kvs (.inr l)).isSome))) := by
  show (match oInB (.fr (.str l)) (.fr (.dk kvs)) with | some b => P (.fr (.bl (!b))) | none => False) = _
  rw [show oInB (.fr (.str l)) (.fr (.dk kvs)) = some (getK kvs (.inr l)).isSome from by
    show (match T.fr (.str l), T.fr (.dk kvs) with
      | .fr (.str [c]), .fr (.str l) => some (decide (c ∈ l))
      | x, y => (dGet y x).map fun o : Option T => o.isSome) = _
    split
    · next h => cases h
    · show (some ((getK kvs (.inr l)).map T.fr)).map (fun o : Option T => o.isSome) = _
      simp]
theorem flat_non : flatD .non = true := rfl
theorem flat_bl (b : Bool) : flatD (.bl b) = true := rfl
theorem flat_int (b : Int) : flatD (.int b) = true := rfl
theorem flat_str (b : List Nat) : flatD (.str b) = true := rfl
/-! == -/
theorem oEq_fr (a b : D) : oEq (.fr a) (.fr b) P = (okP 60 a = true ∧ okP 60 b = true ∧ P (.fr (.bl (eqD a b)))) := rfl
theorem oNe_fr (a b : D) : oNe (.fr a) (.fr b) P = (okP 60 a = true ∧ okP 60 b = true ∧ P (.fr (.bl (!eqD a b)))) := rfl
theorem oEq_own (m : Bool) (ts : List D) (b : D) : oEq (.lst m (ts.map .fr)) (.fr b) P = (okP 60 (.lst ts) = true ∧ okP 60 b = true ∧ P (.fr (.bl (eqD (.lst ts) b)))) := by
  unfold oEq; rw [show (T.lst m (ts.map .fr)).toD = .lst ts from congrArg D.lst (toDs_fr ts)]; rfl
theorem oNe_own (m : Bool) (ts : List D) (b : D) : oNe (.lst m (ts.map .fr)) (.fr b) P = (okP 60 (.lst ts) = true ∧ okP 60 b = true ∧ P (.fr (.bl (!eqD (.lst ts) b)))) := by
  unfold oNe; rw [show (T.lst m (ts.map .fr)).toD = .lst ts from congrArg D.lst (toDs_fr ts)]; rfl
theorem okP_non (n : Nat) : okP n .non = true := by cases n <;> rfl
theorem okP_bl (n : Nat) (b : Bool) : okP n (.bl b) = true := by cases n <;> rfl
theorem okP_int (n : Nat) (b : Int) : okP n (.int b) = true := by cases n <;> rfl
theorem okP_str (n : Nat) (b : List Nat) : okP n (.str b) = true := by cases n <;> rfl
theorem okP_lst (n : Nat) (ds : List D) : okP (n + 1) (.lst ds) = ds.all (okP n) := rfl
theorem okP_tup (n : Nat) (ds : List D) : okP (n + 1) (.tup ds) = ds.all (okP n) := rfl
theorem eqD_non_int (i : Int) : eqD .non (.int i) = false := rfl
theorem eqD_int_non (i : Int) : eqD (.int i) .non = false := rfl
theorem eqD_non_non : eqD .non .non = true := rfl
theorem eqD_str_non (i : List Nat) : eqD (.str i) .non = false := rfl
theorem eqD_non_str (i : List Nat) : eqD .non (.str i) = false := rfl
theorem eqD_str_int (i : List Nat) (j : Int) : eqD (.str i) (.int j) = false := rfl
theorem eqD_int_str (i : List Nat) (j : Int) : eqD (.int j) (.str i) = false := rfl
/-! len, built-ins -/
theorem oLen_lst (ds : List D) : oLen [.fr (.lst ds)] P = P (.fr (.int ds.length)) := by show P (.fr (.int (ds.map T.fr).length)) = _; rw [List.length_map]
theorem oLen_tup (ds : List D) : oLen [.fr (.tup ds)] P = P (.fr (.int ds.length)) := by show P (.fr (.int (ds.map T.fr).length)) = _; rw [List.length_map]
theorem oLen_scr (ds : List Int) : oLen [.fr (.scr ds)] P = P (.fr (.int ds.length)) := by show P (.fr (.int (ds.map fun i => T.fr (.int i)).length)) = _; rw [List.length_map]
theorem oLen_own (m : Bool) (ts : List T) : oLen [.lst m ts] P = P (.fr (.int ts.length)) := rfl
theorem oLen_str (l : List Nat) : oLen [.fr (.str l)] P = P (.fr (.int l.length)) := rfl
theorem o1_eq (o : T → (T → Prop) → Prop) (t : T) : o1 o [t] P = o t P := rfl
theorem oSum_lst (ds : List D) : oSum (.fr (.lst ds)) P = optP (intsD ds) fun ns => P (.fr (.int ns.sum)) := by
  show (match intsD ds with | some ns => P (.fr (.int ns.sum)) | none => False) = _
  cases intsD ds <;> rfl
theorem oAny_lst (ds : List D) : oAny (.fr (.lst ds)) P = optP (blsD ds) fun ns => P (.fr (.bl (ns.any id))) := by
  show (match blsD ds with | some ns => P (.fr (.bl (ns.any id))) | none => False) = _
  cases blsD ds <;> rfl
theorem oAll_lst (ds : List D) : oAll (.fr (.lst ds)) P = optP (blsD ds) fun ns => P (.fr (.bl (ns.all id))) := by
  show (match blsD ds with | some ns => P (.fr (.bl (ns.all id))) | none => False) = _
  cases blsD ds <;> rfl
theorem oMaxV_2 (i j : Int) : oMaxV [.fr (.int i), .fr (.int j)] P = P (.fr (.int (max i j))) := rfl
theorem oMinV_2 (i j : Int) : oMinV [.fr (.int i), .fr (.int j)] P = P (.fr (.int (min i j))) := rfl
theorem oMaxV_1 (ds : List D) : oMaxV [.fr (.lst ds)] P = optP ((intsD ds).bind List.max?) fun m => P (.fr (.int m)) := by
  show (match (intsD ds).bind List.max? with | some m => P (.fr (.int m)) | none => False) = _
  cases (intsD ds).bind List.max? <;> rfl
theorem oMinV_1 (ds : List D) : oMinV [.fr (.lst ds)] P = optP ((intsD ds).bind List.min?) fun m => P (.fr (.int m)) := by
  show (match (intsD ds).bind List.min? with | some m => P (.fr (.int m)) | none => False) = _
  cases (intsD ds).bind List.min? <;> rfl
theorem oAbs_int (i : Int) : oAbs (.fr (.int i)) P = P (.fr (.int (if i < 0 then -i else i))) := rfl
theorem oInt_int (i : Int) : oInt (.fr (.int i)) P = P (.fr (.int i)) := rfl
theorem oInt_bl (i : Bool) : oInt (.fr (.bl i)) P = P (.fr (.int (if i then 1 else 0))) := rfl
theorem oList_lst (ds : List D) : oList (.fr (.lst ds)) P = P (.fr (.lst ds)) := by
  show (match frs (ds.map T.fr) with | some ds => P (.fr (.lst ds)) | none => False) = _; rw [frs_map]
theorem oList_tup (ds : List D) : oList (.fr (.tup ds)) P = P (.fr (.lst ds)) := by
  show (match frs (ds.map T.fr) with | some ds => P (.fr (.lst ds)) | none => False) = _; rw [frs_map]
theorem oList_own (m : Bool) (ds : List D) : oList (.lst m (ds.map .fr)) P = P (.fr (.lst ds)) := by
  show (match frs (ds.map T.fr) with | some ds => P (.fr (.lst ds)) | none => False) = _; rw [frs_map]
theorem oTuple_lst (ds : List D) : oTuple (.fr (.lst ds)) P = P (.fr (.tup ds)) := by
  show (match frs (ds.map T.fr) with | some ds => P (.fr (.tup ds)) | none => False) = _; rw [frs_map]
theorem oTuple_tup (ds : List D) : oTuple (.fr (.tup ds)) P = P (.fr (.tup ds)) := by
  show (match frs (ds.map T.fr) with | some ds => P (.fr (.tup ds)) | none => False) = _; rw [frs_map]
theorem oTuple_own (m : Bool) (ds : List D) : oTuple (.lst m (ds.map .fr)) P = P (.fr (.tup ds)) := by
  show (match frs (ds.map T.fr) with | some ds => P (.fr (.tup ds)) | none => False) = _; rw [frs_map]
theorem oSl_lst (ds : List D) (lo hi : Option Int) : oSl (.fr (.lst ds)) lo hi P = P (.fr (.lst (cut ds lo hi))) := rfl
theorem oSl_str (ds : List Nat) (lo hi : Option Int) : oSl (.fr (.str ds)) lo hi P = P (.fr (.str (cut ds lo hi))) := rfl
theorem oSl_tup (ds : List D) (lo hi : Option Int) : oSl (.fr (.tup ds)) lo hi P = (¬ (HT.sIx ds.length 0 lo = 0 ∧ HT.sIx ds.length ds.length hi = ds.length) ∧ P (.fr (.tup (cut ds lo hi)))) := rfl
theorem oSl_own (m : Bool) (ds : List D) (lo hi : Option Int) : oSl (.lst m (ds.map .fr)) lo hi P = P (.fr (.lst (cut ds lo hi))) := by
  show (match frs (ds.map T.fr) with | some ds => P (.fr (.lst (cut ds lo hi))) | none => False) = _; rw [frs_map]
def asI (P : Option Int → Prop) : T → Prop
  | .fr (.int i) => P (some i)
  | _ => False
theorem wPart_eq (w : TW) (P : Option Int → Prop) : wPart w ρ P = w ρ (asI P) := by
  unfold wPart
  congr 1
theorem asI_int (i : Int) (P : Option Int → Prop) : asI P (.fr (.int i)) = P (some i) := rfl
/-! what is walked -/
def itE (t : T) (P : Bool → List T → Prop) : Prop := match elems t with
  | some (_, ts) => P t.lentB ts
  | none => False
theorem wiSeq_eq (w : TW) (P : Bool → List T → Prop) : wiSeq w ρ P = w ρ fun t => itE t P := rfl
theorem itE_lst (ds : List D) (P : Bool → List T → Prop) : itE (.fr (.lst ds)) P = P true (ds.map .fr) := rfl
theorem itE_tup (ds : List D) (P : Bool → List T → Prop) : itE (.fr (.tup ds)) P = P true (ds.map .fr) := rfl
theorem itE_scr (ds : List Int) (P : Bool → List T → Prop) : itE (.fr (.scr ds)) P = P true (ds.map fun i => .fr (.int i)) := rfl
theorem itE_own (m : Bool) (ts : List T) (P : Bool → List T → Prop) : itE (.lst m ts) P = P (T.lst m ts).lentB ts := rfl
def itS (t : T) (P : Bool → List T → Prop) : Prop := match t with
  | .fr (.str l) => P true (l.map fun c => .fr (.str [c]))
  | _ => False
theorem wiStr_eq (w : TW) (P : Bool → List T → Prop) : wiStr w ρ P = w ρ fun t => itS t P := rfl
theorem itS_str (l : List Nat) (P : Bool → List T → Prop) : itS (.fr (.str l)) P = P true (l.map fun c => .fr (.str [c])) := rfl
def itR1 (ts : List T) (P : Bool → List T → Prop) : Prop := match ts with
  | [.fr (.int j)] => -(2 ^ 62) ≤ j ∧ j < 2 ^ 62 ∧ P true (upTo 0 j.toNat)
  | _ => False
theorem wiRng1_eq (w : TWs) (P : Bool → List T → Prop) : wiRng1 w ρ P = w ρ fun t => itR1 t P := rfl
theorem itR1_int (j : Int) (P : Bool → List T → Prop) : itR1 [.fr (.int j)] P = (-(2 ^ 62) ≤ j ∧ j < 2 ^ 62 ∧ P true (upTo 0 j.toNat)) := rfl
def itR2 (ts : List T) (P : Bool → List T → Prop) : Prop := match ts with
  | [.fr (.int i), .fr (.int j)] => (-(2 ^ 62) ≤ i ∧ i < 2 ^ 62 ∧ -(2 ^ 62) ≤ j ∧ j < 2 ^ 62) ∧ P true (upTo i (j - i).toNat)
  | _ => False
theorem wiRng2_eq (w : TWs) (P : Bool → List T → Prop) : wiRng2 w ρ P = w ρ fun t => itR2 t P := rfl
theorem itR2_int (i j : Int) (P : Bool → List T → Prop) : itR2 [.fr (.int i), .fr (.int j)] P = ((-(2 ^ 62) ≤ i ∧ i < 2 ^ 62 ∧ -(2 ^ 62) ≤ j ∧ j < 2 ^ 62) ∧ P true (upTo i (j - i).toNat)) := rfl
/-- enumerate over data -/
def enumD : Nat → List D → List D
  | _, [] => []
  | n, d :: ds => .tup [.int n, d] :: enumD (n + 1) ds
theorem enumT_fr : ∀ (n : Nat) (ds : List D), enumT n (ds.map .fr) = (enumD n ds).map .fr
  | _, [] => rfl
  | n, d :: ds => by show _ :: enumT (n + 1) (ds.map .fr) = _; rw [enumT_fr (n + 1) ds]; rfl
def zipD : List D → List D → List D
  | d :: ds, e :: es => .tup [d, e] :: zipD ds es
  | _, _ => []
theorem zipT_fr : ∀ (ds es : List D), zipT (ds.map .fr) (es.map .fr) = (zipD ds es).map .fr
  | [], [] => rfl
  | [], _ :: _ => rfl
  | _ :: _, [] => rfl
  | d :: ds, e :: es => by show _ :: zipT (ds.map .fr) (es.map .fr) = _; rw [zipT_fr ds es]; rfl
def itEn (ts : List T) (P : Bool → List T → Prop) : Prop := match ts with
  | [t] => match elems t with
    | some (true, us) => P t.lentB (enumT 0 us)
    | _ => False
  | _ => False
theorem wiEnum_eq (w : TWs) (P : Bool → List T → Prop) : wiEnum w ρ P = w ρ fun t => itEn t P := rfl
theorem itEn_lst (ds : List D) (P : Bool → List T → Prop) : itEn [.fr (.lst ds)] P = P true ((enumD 0 ds).map .fr) := by rw [← enumT_fr]; rfl
theorem itEn_own (m : Bool) (ds : List D) (P : Bool → List T → Prop) : itEn [.lst m (ds.map .fr)] P = P (T.lst m (ds.map .fr)).lentB ((enumD 0 ds).map .fr) := by rw [← enumT_fr]; rfl
def itZ (ts : List T) (P : Bool → List T → Prop) : Prop := match ts with
  | [t, u] => match elems t, elems u with
    | some (true, xs), some (true, ys) => P (t.lentB && u.lentB) (zipT xs ys)
    | _, _ => False
  | _ => False
theorem wiZip_eq (w : TWs) (P : Bool → List T → Prop) : wiZip w ρ P = w ρ fun t => itZ t P := rfl
theorem itZ_lst (ds es : List D) (P : Bool → List T → Prop) : itZ [.fr (.lst ds), .fr (.lst es)] P = P true ((zipD ds es).map .fr) := by rw [← zipT_fr]; rfl
/-! targets, slots -/
theorem bindP_nm (i : Nat) (t : T) (ρ : Rho) : bindP (.nm i) t ρ = some (ρ.set i (some t)) := rfl
theorem bindP_tup (ps : Pats) (ds : List D) (ρ : Rho) : bindP (.tu ps) (.fr (.tup ds)) ρ = bindPs ps (ds.map .fr) ρ := rfl
theorem bindP_ttup (ps : Pats) (ts : List T) (ρ : Rho) : bindP (.tu ps) (.tup ts) ρ = bindPs ps ts ρ := rfl
theorem bindPs_nil (ρ : Rho) : bindPs .nil [] ρ = some ρ := rfl
theorem bindPs_cons (p : Pat) (ps : Pats) (t : T) (ts : List T) (ρ : Rho) : bindPs (.cons p ps) (t :: ts) ρ = (bindP p t ρ).bind fun ρ' => bindPs ps ts ρ' := by
  show (match bindP p t ρ with | some ρ' => bindPs ps ts ρ' | none => none) = _
  cases bindP p t ρ <;> rfl
theorem sUnp_eq (p : Pat) (w : TW) : sUnp p w E ρ = w ρ fun t => t.lentB = true ∧ optP (bindP p t ρ) fun ρ' => E.nx ρ' := by
  unfold sUnp
  congr 1
  funext t
  cases bindP p t ρ <;> rfl
theorem lent_fr (d : D) : (T.fr d).lentB = true := rfl
def par2 (ts : List T) (P : D → D → Prop) : Prop := match ts with
  | [.fr a, .fr b] => P a b
  | _ => False
theorem sPar_eq (i j : Nat) (ws : TWs) : sPar i j ws E ρ = ws ρ fun ts => par2 ts fun a b => E.nx ((ρ.set i (some (.fr a))).set j (some (.fr b))) := by
  unfold sPar
  congr 1
theorem par2_eq (a b : D) (P : D → D → Prop) : par2 [.fr a, .fr b] P = P a b := rfl
theorem wipeR_nil (ρ : Rho) : wipeR ρ [] = ρ := rfl
theorem wipeR_cons (ρ : Rho) (v : Nat) (vs : List Nat) : wipeR ρ (v :: vs) = (wipeR ρ vs).set v none := rfl
theorem set_0 {α : Type} (a b : α) (l : List α) : (a :: l).set 0 b = b :: l := rfl
theorem set_s {α : Type} (a b : α) (l : List α) (i : Nat) : (a :: l).set (i + 1) b = a :: l.set i b := rfl
def ownE (o : Option T) (P : List T → Prop) : Prop := match o with
  | some (.lst true ts) => P ts
  | _ => False
theorem sAppend_eq (i : Nat) (w : TW) : sAppend i w E ρ = ownE (look ρ i) fun ts => w ρ (asD fun d => ts.length < sizeLine ∧ E.nx (ρ.set i (some (.lst true (ts ++ [.fr d]))))) := rfl
theorem ownE_lst (ts : List T) (P : List T → Prop) : ownE (some (.lst true ts)) P = P ts := rfl
theorem sRetOwn_eq (i : Nat) : sRetOwn i E ρ = ownE (look ρ i) fun ts => optP (frs ts) fun ds => E.rt (.fr (.lst ds)) (ρ.set i (some (.fr (.lst ds)))) := by
  unfold sRetOwn ownE
  cases look ρ i with
  | none => rfl
  | some t =>
    cases t with
    | lst m ts =>
      cases m with
      | false => rfl
      | true => show (match frs ts with | some ds => _ | none => False) = optP (frs ts) _; cases frs ts <;> rfl
    | _ => rfl
theorem sFreeze_eq (i : Nat) (W : TSW) : sFreeze i W E ρ = ownE (look ρ i) fun ts => optP (frs ts) fun ds => W E (ρ.set i (some (.fr (.lst ds)))) := by
  unfold sFreeze ownE
  cases look ρ i with
  | none => rfl
  | some t =>
    cases t with
    | lst m ts =>
      cases m with
      | false => rfl
      | true => show (match frs ts with | some ds => _ | none => False) = optP (frs ts) _; cases frs ts <;> rfl
    | _ => rfl
def asL (P : List D → Prop) : D → Prop
  | .lst ds => P ds
  | _ => False
theorem asL_lst (ds : List D) (P : List D → Prop) : asL P (.lst ds) = P ds := rfl
theorem sExtend_eq (i : Nat) (w : TW) : sExtend i w E ρ = ownE (look ρ i) fun ts => w ρ (asD (asL fun ds => ts.length + ds.length ≤ sizeLine ∧ E.nx (ρ.set i (some (.lst true (ts ++ ds.map .fr)))))) := by
  unfold sExtend ownE
  cases look ρ i with
  | none => rfl
  | some t =>
    cases t with
    | lst m ts =>
      cases m with
      | false => rfl
      | true =>
        show w ρ (asD _) = w ρ (asD _)
        congr 2
    | _ => rfl
def nL (ts : List T) (P : List D → Prop) : Prop := match ts with
  | [t] => optP (seqD t) P
  | _ => False
theorem nList_eq (ws : TWs) (P : List D → Prop) : nList ws ρ P = ws ρ fun ts => nL ts P := by
  unfold nList
  congr 1
  funext ts
  cases ts with
  | nil => rfl
  | cons a as => cases as with
    | nil => show (match seqD a with | some ds => _ | none => False) = optP (seqD a) _; cases seqD a <;> rfl
    | cons _ _ => rfl
theorem nL_lst (ds : List D) (P : List D → Prop) : nL [.fr (.lst ds)] P = P ds := by show optP (frs (ds.map T.fr)) P = _; rw [frs_map]; rfl
theorem nL_tup (ds : List D) (P : List D → Prop) : nL [.fr (.tup ds)] P = P ds := by show optP (frs (ds.map T.fr)) P = _; rw [frs_map]; rfl
theorem wCall_eq (n : Nat) (S : List T → (D → Prop) → Prop) (ws : TWs) : wCall n S ws ρ P = ws ρ fun ts => ts.length = n ∧ S (T.lends ts) fun d => P (.fr d) := rfl
theorem lends_nil : T.lends [] = [] := rfl
theorem lends_cons (t : T) (ts : List T) : T.lends (t :: ts) = t.lend :: T.lends ts := rfl
theorem lend_fr (d : D) : (T.fr d).lend = .fr d := rfl
theorem lend_own (m : Bool) (ds : List D) : (T.lst m (ds.map .fr)).lend = .lst false (ds.map .fr) := by
  show T.lst false (T.lends (ds.map .fr)) = _
  congr 1
  induction ds with
  | nil => rfl
  | cons d ds ih => show _ :: _ = _; rw [ih]; rfl
theorem lent_own_false (ds : List D) : (T.lst false (ds.map .fr)).lentB = true := by
  show (!false && T.lentBs (ds.map .fr)) = true
  induction ds with
  | nil => rfl
  | cons d ds ih => exact ih
theorem nilmap : ([] : List T) = ([] : List D).map .fr := rfl
theorem app_fr (ds : List D) (d : D) : ds.map T.fr ++ [T.fr d] = (ds ++ [d]).map T.fr := by rw [List.map_append]; rfl
theorem apps_fr (ds es : List D) : ds.map T.fr ++ es.map T.fr = (ds ++ es).map T.fr := List.map_append.symm
end
/-! ### loops -/
def lcE (C : List T → Prop) (vs : List Nat) (p : Pat) (wt : TB) (we : TW) (ρ : Rho) (its : List T) (P : T → Prop) : Prop := C its ∧ ∃ I : Nat → List D → Prop, I 0 [] ∧
  (∀ i t acc, its[i]? = some t → I i acc → match bindP p t (wipeR ρ vs) with
    | some ρ1 => wt ρ1 fun b => if b = true then we ρ1 (asD fun d => I (i + 1) (acc ++ [d])) else I (i + 1) acc
    | none => False) ∧ ∀ acc, I its.length acc → P (.fr (.lst acc))
theorem wLcG_eq {ρ : Rho} {P : T → Prop} (C : List T → Prop) (vs : List Nat) (p : Pat) (wi : TWI) (wt : TB) (we : TW) : wLcG C vs p wi wt we ρ P = wi ρ fun _ its => lcE C vs p wt we ρ its P := rfl
/-- a comprehension over xs: each turn keeps f x or nothing -/
theorem lc_fm {C : List T → Prop} {vs : List Nat} {p : Pat} {wt : TB} {we : TW} {ρ : Rho} {P : T → Prop} {α : Type} (xs : List α) (enc : α → T) (f : α → Option D) (hC : C (xs.map enc))
    (h : ∀ x ∈ xs, ∀ (A : D → Prop) (B : Prop), (match f x with | some d => A d | none => B) → optP (bindP p (enc x) (wipeR ρ vs)) fun ρ1 => wt ρ1 fun b => if b = true then we ρ1 (asD A) else B) (hP : P (.fr (.lst (xs.filterMap f)))) :
    lcE C vs p wt we ρ (xs.map enc) P := by
  refine ⟨hC, fun i acc => acc = (xs.take i).filterMap f, by simp, fun i t acc ht hi => ?_, fun acc ha => by rw [ha, List.length_map, List.take_length]; exact hP⟩
  rw [List.getElem?_map] at ht
  cases hx : xs[i]? with
  | none => rw [hx] at ht; cases ht
  | some x =>
    rw [hx] at ht
    cases ht
    have hm := h x (List.mem_of_getElem? hx) (fun d => acc ++ [d] = (xs.take (i + 1)).filterMap f) (acc = (xs.take (i + 1)).filterMap f) (by
      rw [List.take_add_one, hx, List.filterMap_append, hi]
      cases q : f x <;> simp [q])
    cases hb : bindP p (enc x) (wipeR ρ vs) with
    | none => rw [hb] at hm; exact hm.elim
    | some ρ1 => rw [hb] at hm; exact hm
theorem lc_map {C : List T → Prop} {vs : List Nat} {p : Pat} {wt : TB} {we : TW} {ρ : Rho} {P : T → Prop} {α : Type} (xs : List α) (enc : α → T) (f : α → D) (hC : C (xs.map enc))
    (h : ∀ x ∈ xs, ∀ (A : D → Prop) (B : Prop), A (f x) → optP (bindP p (enc x) (wipeR ρ vs)) fun ρ1 => wt ρ1 fun b => if b = true then we ρ1 (asD A) else B) (hP : P (.fr (.lst (xs.map f)))) :
    lcE C vs p wt we ρ (xs.map enc) P :=
  lc_fm xs enc (fun x => some (f x)) hC (fun x hx A B q => h x hx A B q) (by rw [show xs.filterMap (fun x => some (f x)) = xs.map f from List.filterMap_eq_map ▸ rfl]; exact hP)
/-- .. each turn keeps something of which R holds -/
theorem lc_all {C : List T → Prop} {vs : List Nat} {p : Pat} {wt : TB} {we : TW} {ρ : Rho} {P : T → Prop} {α : Type} (xs : List α) (enc : α → T) (R : α → D → Prop) (hC : C (xs.map enc))
    (h : ∀ x ∈ xs, ∀ (A : D → Prop) (B : Prop), (∀ d, R x d → A d) → optP (bindP p (enc x) (wipeR ρ vs)) fun ρ1 => wt ρ1 fun b => if b = true then we ρ1 (asD A) else B) (hP : ∀ ds, Paired R xs ds → P (.fr (.lst ds))) :
    lcE C vs p wt we ρ (xs.map enc) P := by
  refine ⟨hC, fun i acc => Paired R (xs.take i) acc, .nil, fun i t acc ht hi => ?_, fun acc ha => by rw [List.length_map, List.take_length] at ha; exact hP acc ha⟩
  rw [List.getElem?_map] at ht
  cases hx : xs[i]? with
  | none => rw [hx] at ht; cases ht
  | some x =>
    rw [hx] at ht
    cases ht
    have app : ∀ {l : List α} {m : List D} {d : D}, Paired R l m → R x d → Paired R (l ++ [x]) (m ++ [d]) := by
      intro l m d q r
      induction q with
      | nil => exact .cons r .nil
      | cons a _ ih => exact .cons a ih
    have hm := h x (List.mem_of_getElem? hx) (fun d => Paired R (xs.take (i + 1)) (acc ++ [d])) (Paired R (xs.take (i + 1)) acc) (fun d r => by
      rw [List.take_add_one, hx]
      exact app hi r)
    cases hb : bindP p (enc x) (wipeR ρ vs) with
    | none => rw [hb] at hm; exact hm.elim
    | some ρ1 => rw [hb] at hm; exact hm
def forE (p : Pat) (W : TSW) (E : ET) (ρ : Rho) (fl : Bool) (its : List T) : Prop := fl = true ∧ ∃ I : Nat → Rho → Prop, I 0 ρ ∧
  (∀ i t ρ', its[i]? = some t → I i ρ' → match bindP p t ρ' with
    | some ρ1 => W { E with nx := I (i + 1), ct := I (i + 1), bk := E.nx } ρ1
    | none => False) ∧ ∀ ρ', I its.length ρ' → E.nx ρ'
theorem sFor_eq {E : ET} {ρ : Rho} (p : Pat) (wi : TWI) (W : TSW) : sFor p wi W E ρ = wi ρ fun fl its => forE p W E ρ fl its := rfl
/-- a loop over xs: M tells what holds where so many are left -/
theorem for_ind {p : Pat} {W : TSW} {E : ET} {ρ : Rho} {α : Type} (xs : List α) (enc : α → T) (M : List α → Rho → Prop) (h0 : M xs ρ) (hn : ∀ ρ', M [] ρ' → E.nx ρ')
    (hs : ∀ x r ρ', M (x :: r) ρ' → optP (bindP p (enc x) ρ') fun ρ1 => W { E with nx := M r, ct := M r, bk := E.nx } ρ1) : forE p W E ρ true (xs.map enc) := by
  refine ⟨rfl, fun i ρ' => M (xs.drop i) ρ', h0, fun i t ρ' ht hi => ?_, fun ρ' hd => hn ρ' (by rw [List.length_map, List.drop_length] at hd; exact hd)⟩
  rw [List.getElem?_map] at ht
  cases hx : xs[i]? with
  | none => rw [hx] at ht; cases ht
  | some x =>
    rw [hx] at ht
    cases ht
    obtain ⟨hlt, e⟩ := List.getElem?_eq_some_iff.mp hx
    have ed : xs.drop i = x :: xs.drop (i + 1) := by rw [List.drop_eq_getElem_cons hlt, e]
    rw [ed] at hi
    have hm := hs x _ ρ' hi
    cases hb : bindP p (enc x) ρ' with
    | none => rw [hb] at hm; exact hm.elim
    | some ρ1 => rw [hb] at hm; exact hm
/-- .. by what is behind -/
theorem for_pre {p : Pat} {W : TSW} {E : ET} {ρ : Rho} {α : Type} (xs : List α) (enc : α → T) (M : List α → Rho → Prop) (h0 : M [] ρ) (hn : ∀ ρ', M xs ρ' → E.nx ρ')
    (hs : ∀ pre x post ρ', xs = pre ++ x :: post → M pre ρ' → optP (bindP p (enc x) ρ') fun ρ1 => W { E with nx := M (pre ++ [x]), ct := M (pre ++ [x]), bk := E.nx } ρ1) : forE p W E ρ true (xs.map enc) := by
  refine ⟨rfl, fun i ρ' => M (xs.take i) ρ', h0, fun i t ρ' ht hi => ?_, fun ρ' hd => hn ρ' (by rw [List.length_map, List.take_length] at hd; exact hd)⟩
  rw [List.getElem?_map] at ht
  cases hx : xs[i]? with
  | none => rw [hx] at ht; cases ht
  | some x =>
    rw [hx] at ht
    cases ht
    obtain ⟨hlt, e⟩ := List.getElem?_eq_some_iff.mp hx
    have ed : xs.drop i = x :: xs.drop (i + 1) := by rw [List.drop_eq_getElem_cons hlt, e]
    have et : xs.take (i + 1) = xs.take i ++ [x] := by rw [List.take_add_one, hx]; rfl
    have hm := hs (xs.take i) x (xs.drop (i + 1)) ρ' (by rw [← ed, List.take_append_drop]) hi
    show match bindP p (enc x) ρ' with
      | some ρ1 => W { E with nx := fun ρ' => M (xs.take (i + 1)) ρ', ct := fun ρ' => M (xs.take (i + 1)) ρ', bk := E.nx } ρ1
      | none => False
    rw [et]
    cases hb : bindP p (enc x) ρ' with
    | none => rw [hb] at hm; exact hm.elim
    | some ρ1 => rw [hb] at hm; exact hm
def whileE (wt : TB) (W : TSW) (E : ET) (ρ : Rho) : Prop := ∃ (I : Rho → Prop) (μ : Rho → Nat), I ρ ∧ ∀ ρ', I ρ' → wt ρ' fun b => if b = true then W { E with nx := fun r => I r ∧ μ r < μ ρ', ct := fun r => I r ∧ μ r < μ ρ', bk := E.nx } ρ' else E.nx ρ'
theorem sWhile_eq {E : ET} {ρ : Rho} (wt : TB) (W : TSW) : sWhile wt W E ρ = whileE wt W E ρ := rfl
end TL
set_option Elab.async false
set_option linter.all false
set_option maxRecDepth 100000
set_option maxHeartbeats 1000000
/-! TL15: things within things: paths. -/
namespace TL
open PySem PySem.Spec PyProof.Rows L2
inductive PStep where
  | fld (f : Str) | key (k : KY) | keyT (k : List KY) | ix (n : Nat)
def setK {κ : Type} [DecidableEq κ] {α : Type} (k : κ) (x : α) : List (κ × α) → List (κ × α)
  | [] => []
  | (k', y) :: r => if k' = k then (k', x) :: r else (k', y) :: setK k x r
def idxK {κ : Type} [DecidableEq κ] {α : Type} (k : κ) : List (κ × α) → Option Nat
  | [] => none
  | (k', y) :: r => if k' = k then some 0 else (idxK k r).map (· + 1)
def T.get : PStep → T → Option T
  | .fld f, .ins _ _ fs => getK fs f
  | .key k, .dk _ kvs => getK kvs k
  | .keyT k, .dt _ kvs => getK kvs k
  | .ix n, .lst _ ts => ts[n]?
  | _, _ => none
def T.put : PStep → T → T → T
  | .fld f, .ins m C fs, t => .ins m C (setK f t fs)
  | .key k, .dk m kvs, t => .dk m (setK k t kvs)
  | .keyT k, .dt m kvs, t => .dt m (setK k t kvs)
  | .ix n, .lst m ts, t => .lst m (ts.set n t)
  | _, s, _ => s
def T.idx : PStep → T → Option Nat
  | .fld f, .ins _ _ fs => idxK f fs
  | .key k, .dk _ kvs => idxK k kvs
  | .keyT k, .dt _ kvs => idxK k kvs
  | .ix n, .lst _ ts => some n
  | _, _ => none
def T.at : List PStep → T → Option T
  | [], t => some t
  | s :: π, t => match t.get s with
    | some c => T.at π c
    | none => none
def T.upd : List PStep → T → T → T
  | [], _, t' => t'
  | s :: π, t, t' => match t.get s with
    | some c => t.put s (T.upd π c t')
    | none => t
def hkids : HO → List V
  | .lst vs => vs
  | .dK kvs => kvs.map (·.2)
  | .dT kvs => kvs.map (·.2)
  | .ins _ _ fs => fs.map (·.2)
  | _ => []
def kidAt (H : Hp) (a : Addr) (n : Nat) : Option V := match H a with
  | some o => (hkids o)[n]?
  | none => none
def reach (H : Hp) : List PStep → V → T → Option V
  | [], v, _ => some v
  | s :: π, .ref a, t => match t.idx s, t.get s with
    | some n, some c => match kidAt H a n with
      | some w => reach H π w c
      | none => none
    | _, _ => none
  | _ :: _, _, _ => none
theorem idxK_get {κ : Type} [DecidableEq κ] {α : Type} (k : κ) : ∀ (kvs : List (κ × α)) (x : α), getK kvs k = some x → ∃ n, idxK k kvs = some n ∧ (kvs.map (·.2))[n]? = some x ∧ (kvs.map (·.1))[n]? = some k ∧
    ∀ y, (setK k y kvs).map (·.2) = (kvs.map (·.2)).set n y ∧ (setK k y kvs).map (·.1) = kvs.map (·.1)
  | [], _, h => by cases h
  | (k', y) :: r, x, h => by
    by_cases e : k' = k
    · subst e
      have : y = x := by simpa [getK] using h
      subst this
      exact ⟨0, by simp [idxK], by simp, by simp, fun z => by simp [setK]⟩
    · have h2 : getK r k = some x := by simpa [getK, List.find?, e] using h
      obtain ⟨n, h3, h4, h5, h6⟩ := idxK_get k r x h2
      exact ⟨n + 1, by simp [idxK, e, h3], by simpa using h4, by simpa using h5, fun z => by simp [setK, e, (h6 z).1, (h6 z).2]⟩
theorem map_fst_of {κ κ' α : Type} {g : κ → κ'} {xs ys : List (κ × α)} (h : xs.map (·.1) = ys.map (·.1)) : xs.map (fun p => g p.1) = ys.map (fun p => g p.1) := by
  have : ∀ zs : List (κ × α), zs.map (fun p => g p.1) = (zs.map (·.1)).map g := fun zs => by simp
  rw [this, this, h]
section
variable {K : PySem.W.Frag} {G G' : Gh} {H H' : Hp} {c : Nat}
theorem RepTs.split : ∀ {vs : List V} {ts : List T} {f : Fps} {n : Nat} {t : T}, RepTs K G H vs ts f → ts[n]? = some t → ∃ v f1 f0 f2, f = f1 ++ (f0 ++ f2) ∧ vs[n]? = some v ∧ RepT K G H v t f0 ∧
    ∀ (G' : Gh) (H' : Hp) (t' : T) (f' : Fps), (∀ a g, G.obj a = some g → G'.obj a = some g) → (∀ q ∈ f1 ++ f2, ∀ o, H q.2 = some o → G.obj q.2 = none → H' q.2 = some o ∧ G'.obj q.2 = none) → RepT K G' H' v t' f' → RepTs K G' H' vs (ts.set n t') (f1 ++ (f' ++ f2))
  | _, _, _, _, _, .nil, h => by simp at h
  | _, _, _, 0, _, .cons (v := v) (f := f) (g := g) r s, h => by
    simp only [List.getElem?_cons_zero, Option.some.injEq] at h
    subst h
    refine ⟨v, [], f, g, rfl, rfl, r, fun G' H' t' f' sb k r' => show RepTs K G' H' _ _ (f' ++ g) from .cons r' (s.mono sb k)⟩
  | _, _, _, n + 1, _, .cons (f := f0) r0 s, h => by
    obtain ⟨v, f1, f, f2, rfl, e2, r, k⟩ := RepTs.split s (by simpa using h)
    refine ⟨v, f0 ++ f1, f, f2, by rw [List.append_assoc], by simpa using e2, r, fun G' H' t' f' sb kk r' => ?_⟩
    rw [List.append_assoc]
    exact .cons (r0.mono sb fun q hq => kk q (by rw [List.append_assoc]; exact List.mem_append_left _ hq)) (k G' H' t' f' sb (fun q hq => kk q (by rw [List.append_assoc]; exact List.mem_append_right _ hq)) r')
theorem zip_vals {κ : Type} : ∀ (ks : List κ) (vs : List V), ks.length = vs.length → (ks.zip vs).map (·.2) = vs
  | [], [], _ => rfl
  | _ :: ks, _ :: vs, h => by simp [zip_vals ks vs (by simpa using h)]
  | [], _ :: _, h => by simp at h
  | _ :: _, [], h => by simp at h
/-- one step down -/
theorem RepT.step {v : V} {t c : T} {f : Fps} {s : PStep} (r : RepT K G H v t f) (e : t.get s = some c) : ∃ a n w f1 f0 f2, v = .ref a ∧ t.idx s = some n ∧ kidAt H a n = some w ∧ f = f1 ++ (f0 ++ f2) ∧ RepT K G H w c f0 ∧ (∃ m o, H a = some o ∧ G.obj a = none ∧ (m, a) ∈ f1) ∧
    ∀ (G' : Gh) (H' : Hp) (c' : T) (f' : Fps), (∀ a g, G.obj a = some g → G'.obj a = some g) → (∀ q ∈ f1 ++ f2, ∀ o, H q.2 = some o → G.obj q.2 = none → H' q.2 = some o ∧ G'.obj q.2 = none) → RepT K G' H' w c' f' → RepT K G' H' v (t.put s c') (f1 ++ (f' ++ f2)) := by
  cases t with
  | lst m ts =>
    cases s with
    | ix n =>
      cases r with
      | lst h ng rt =>
        rename_i a vs g
        obtain ⟨w, f1, f0, f2, rfl, e2, r0, k⟩ := rt.split e
        refine ⟨a, n, w, (m, a) :: f1, f0, f2, rfl, rfl, by simp only [kidAt, h]; exact e2, rfl, r0, ⟨m, _, h, ng, List.mem_cons_self ..⟩, fun G' H' c' f' sb kk r' => ?_⟩
        have ka := kk (m, a) (List.mem_cons_self ..) _ h ng
        exact .lst ka.1 ka.2 (k G' H' c' f' sb (fun q hq => kk q (List.mem_cons_of_mem _ hq)) r')
    | _ => cases e
  | dk m kvs =>
    cases s with
    | key k0 =>
      cases r with
      | dk h ng rt =>
        rename_i a vs g
        obtain ⟨n, h1, h2, h3, h4⟩ := idxK_get k0 kvs c e
        obtain ⟨w, f1, f0, f2, rfl, e2, r0, k⟩ := rt.split h2
        have hl : (kvs.map (toK ·.1)).length = vs.length := by rw [rt.length, List.length_map, List.length_map]
        refine ⟨a, n, w, (m, a) :: f1, f0, f2, rfl, h1, by simp only [kidAt, h, hkids]; rw [zip_vals _ _ hl]; exact e2, rfl, r0, ⟨m, _, h, ng, List.mem_cons_self ..⟩, fun G' H' c' f' sb kk r' => ?_⟩
        have ka := kk (m, a) (List.mem_cons_self ..) _ h ng
        have hk := h4 c'
        exact .dk (by rw [map_fst_of hk.2]; exact ka.1) ka.2 (by rw [hk.1]; exact k G' H' c' f' sb (fun q hq => kk q (List.mem_cons_of_mem _ hq)) r')
    | _ => cases e
  | dt m kvs =>
    cases s with
    | keyT k0 =>
      cases r with
      | dt h ng rt =>
        rename_i a vs g
        obtain ⟨n, h1, h2, h3, h4⟩ := idxK_get k0 kvs c e
        obtain ⟨w, f1, f0, f2, rfl, e2, r0, k⟩ := rt.split h2
        have hl : (kvs.map (·.1.map toK)).length = vs.length := by rw [rt.length, List.length_map, List.length_map]
        refine ⟨a, n, w, (m, a) :: f1, f0, f2, rfl, h1, by simp only [kidAt, h, hkids]; rw [zip_vals _ _ hl]; exact e2, rfl, r0, ⟨m, _, h, ng, List.mem_cons_self ..⟩, fun G' H' c' f' sb kk r' => ?_⟩
        have ka := kk (m, a) (List.mem_cons_self ..) _ h ng
        have hk := h4 c'
        exact .dt (by rw [map_fst_of (g := fun k => List.map toK k) hk.2]; exact ka.1) ka.2 (by rw [hk.1]; exact k G' H' c' f' sb (fun q hq => kk q (List.mem_cons_of_mem _ hq)) r')
    | _ => cases e
  | ins m C fs =>
    cases s with
    | fld k0 =>
      cases r with
      | ins h ng hx nd rt =>
        rename_i a dx vs g
        obtain ⟨n, h1, h2, h3, h4⟩ := idxK_get k0 fs c e
        obtain ⟨w, f1, f0, f2, rfl, e2, r0, k⟩ := rt.split h2
        have hl : (fs.map (·.1)).length = vs.length := by rw [rt.length, List.length_map, List.length_map]
        refine ⟨a, n, w, (m, a) :: (m, dx) :: f1, f0, f2, rfl, h1, by simp only [kidAt, h, hkids]; rw [zip_vals _ _ hl]; exact e2, rfl, r0, ⟨m, _, h, ng, List.mem_cons_self ..⟩, fun G' H' c' f' sb kk r' => ?_⟩
        have ka := kk (m, a) (List.mem_cons_self ..) _ h ng
        have kd := kk (m, dx) (List.mem_cons_of_mem _ (List.mem_cons_self ..)) _ hx nd
        have hk := h4 c'
        exact .ins (by rw [hk.2]; exact ka.1) ka.2 kd.1 kd.2 (by rw [hk.1]; exact k G' H' c' f' sb (fun q hq => kk q (List.mem_cons_of_mem _ (List.mem_cons_of_mem _ hq))) r')
    | _ => cases e
  | _ => cases s <;> cases e
theorem idxK_setK {κ : Type} [DecidableEq κ] {α : Type} (k : κ) (y : α) : ∀ (kvs : List (κ × α)), idxK k (setK k y kvs) = idxK k kvs
  | [] => rfl
  | (k', x) :: r => by
    by_cases e : k' = k
    · simp [setK, idxK, e]
    · simp [setK, idxK, e, idxK_setK k y r]
theorem getK_setK {κ : Type} [DecidableEq κ] {α : Type} (k : κ) (y : α) : ∀ (kvs : List (κ × α)) {x : α}, getK kvs k = some x → getK (setK k y kvs) k = some y
  | [], _, h => by cases h
  | (k', x) :: r, z, h => by
    by_cases e : k' = k
    · simp [setK, getK, e]
    · have h2 : getK r k = some z := by simpa [getK, List.find?, e] using h
      have := getK_setK k y r h2
      simpa [setK, getK, List.find?, e] using this
theorem put_idx (s : PStep) (t c c' : T) (h : t.get s = some c) : (t.put s c').idx s = t.idx s := by
  cases s <;> cases t <;> first | rfl | (simp only [T.put, T.idx, idxK_setK]) | cases h
theorem put_get (s : PStep) (t c c' : T) (h : t.get s = some c) : (t.put s c').get s = some c' := by
  cases s with
  | fld f => cases t <;> first | cases h | exact getK_setK f c' _ h
  | key k => cases t <;> first | cases h | exact getK_setK k c' _ h
  | keyT k => cases t <;> first | cases h | exact getK_setK k c' _ h
  | ix n =>
    cases t with
    | lst m ts =>
      have h : ts[n]? = some c := h
      show (ts.set n c')[n]? = some c'
      have := (List.getElem?_eq_some_iff.mp h).1
      rw [List.getElem?_set_self this]
    | _ => cases h
theorem RepT.path : ∀ (π : List PStep) {v : V} {t t0 : T} {f : Fps}, RepT K G H v t f → T.at π t = some t0 → ∃ v0 f1 f0 f2, f = f1 ++ (f0 ++ f2) ∧ reach H π v t = some v0 ∧ RepT K G H v0 t0 f0 ∧
    ∀ (G' : Gh) (H' : Hp) (t' : T) (f' : Fps), (∀ a g, G.obj a = some g → G'.obj a = some g) → (∀ q ∈ f1 ++ f2, ∀ o, H q.2 = some o → G.obj q.2 = none → H' q.2 = some o ∧ G'.obj q.2 = none) → RepT K G' H' v0 t' f' → RepT K G' H' v (T.upd π t t') (f1 ++ (f' ++ f2)) ∧ reach H' π v (T.upd π t t') = some v0
  | [], v, t, t0, f, r, e => by
    cases e
    exact ⟨v, [], f, [], by simp, rfl, r, fun G' H' t' f' _ _ r' => ⟨by simpa [T.upd] using r', rfl⟩⟩
  | s :: π, v, t, t0, f, r, e => by
    unfold T.at at e
    cases hc : t.get s with
    | none => rw [hc] at e; cases e
    | some c =>
      rw [hc] at e
      obtain ⟨a, n, w, f1, f0, f2, rfl, h1, h2, rfl, rc, ⟨m, o, eo, ng, mo⟩, k⟩ := r.step hc
      obtain ⟨v0, g1, g0, g2, rfl, h3, r0, kk⟩ := RepT.path π rc e
      refine ⟨v0, f1 ++ g1, g0, g2 ++ f2, by simp [List.append_assoc], ?_, r0, fun G' H' t' f' sb kp r' => ?_⟩
      · show (match t.idx s, t.get s with
          | some n, some c => match kidAt H a n with
            | some w => reach H π w c
            | none => none
          | _, _ => none) = some v0
        rw [h1, hc]
        simp only []
        rw [h2]
        exact h3
      · have q := kk G' H' t' f' sb (fun q hq => kp q (by
          rcases List.mem_append.mp hq with z | z
          · exact List.mem_append_left _ (List.mem_append_right _ z)
          · exact List.mem_append_right _ (List.mem_append_left _ z))) r'
        have p := k G' H' _ _ sb (fun q hq => kp q (by
          rcases List.mem_append.mp hq with z | z
          · exact List.mem_append_left _ (List.mem_append_left _ z)
          · exact List.mem_append_right _ (List.mem_append_right _ z))) q.1
        have eu : T.upd (s :: π) t t' = t.put s (T.upd π c t') := by
          show (match t.get s with
            | some c => t.put s (T.upd π c t')
            | none => t) = _
          rw [hc]
        have ko := (kp (m, a) (List.mem_append_left _ (List.mem_append_left _ mo)) o eo ng).1
        have kk2 : kidAt H' a n = some w := by
          unfold kidAt at h2 ⊢
          rw [ko]; rw [eo] at h2; exact h2
        rw [eu]
        refine ⟨by simpa [List.append_assoc] using p, ?_⟩
        show (match (t.put s (T.upd π c t')).idx s, (t.put s (T.upd π c t')).get s with
          | some n, some c => match kidAt H' a n with
            | some w => reach H' π w c
            | none => none
          | _, _ => none) = some v0
        rw [put_idx s t c _ hc, put_get s t c _ hc, h1]
        simp only []
        rw [kk2]
        exact q.2
/-- what is reached stays reached -/
theorem reach_eq : ∀ (π : List PStep) {v : V} {t t0 : T} {f : Fps}, RepT K G H v t f → (∀ q ∈ f, ∀ o, H q.2 = some o → G.obj q.2 = none → H' q.2 = some o) → T.at π t = some t0 → reach H' π v t = reach H π v t
  | [], _, _, _, _, _, _, _ => rfl
  | s :: π, v, t, t0, f, r, k, e => by
    unfold T.at at e
    cases hc : t.get s with
    | none => rw [hc] at e; cases e
    | some c =>
      rw [hc] at e
      obtain ⟨a, n, w, f1, f0, f2, rfl, h1, h2, rfl, rc, ⟨m, o, e1, ng, mm⟩, kk⟩ := r.step hc
      have e2 := k (m, a) (List.mem_append_left _ mm) o e1 ng
      have hk : kidAt H' a n = kidAt H a n := by
        unfold kidAt
        rw [e1, e2]
      show (match t.idx s, t.get s with
        | some n, some c => match kidAt H' a n with
          | some w => reach H' π w c
          | none => none
        | _, _ => none) = (match t.idx s, t.get s with
        | some n, some c => match kidAt H a n with
          | some w => reach H π w c
          | none => none
        | _, _ => none)
      rw [h1, hc]
      simp only []
      rw [hk, h2]
      exact reach_eq π rc (fun q hq => k q (List.mem_append_right _ (List.mem_append_left _ hq))) e
theorem T.at_app : ∀ (π : List PStep) (s : PStep) (t : T), T.at (π ++ [s]) t = (T.at π t).bind (T.get s)
  | [], s, t => by
    show (match t.get s with
      | some c => T.at [] c
      | none => none) = _
    cases h : t.get s <;> simp [T.at, h]
  | p :: π, s, t => by
    show (match t.get p with
      | some c => T.at (π ++ [s]) c
      | none => none) = (match t.get p with
      | some c => T.at π c
      | none => none).bind (T.get s)
    cases t.get p with
    | none => rfl
    | some c => exact T.at_app π s c
theorem reach_app : ∀ (π : List PStep) (s : PStep) (v : V) (t w : V) (t0 : T) {u : T}, reach H π v u = some (t) → T.at π u = some t0 → reach H (π ++ [s]) v u = reach H [s] t t0
  | [], s, v, t, w, t0, u, h, e => by
    cases h; cases e; rfl
  | p :: π, s, v, t, w, t0, u, h, e => by
    cases v with
    | ref a =>
      have e' : (match u.get p with
        | some c => T.at π c
        | none => none) = some t0 := e
      have h' : (match u.idx p, u.get p with
        | some n, some c => match kidAt H a n with
          | some w => reach H π w c
          | none => none
        | _, _ => none) = some t := h
      show (match u.idx p, u.get p with
        | some n, some c => match kidAt H a n with
          | some w => reach H (π ++ [s]) w c
          | none => none
        | _, _ => none) = _
      cases hc : u.get p with
      | none => rw [hc] at e'; cases e'
      | some c =>
        cases hi : u.idx p with
        | none => rw [hc, hi] at h'; cases h'
        | some n =>
          rw [hc] at e'; rw [hc, hi] at h'
          simp only [] at h' ⊢
          cases hk : kidAt H a n with
          | none => rw [hk] at h'; cases h'
          | some w2 => rw [hk] at h'; exact reach_app π s w2 t w t0 h' e'
    | _ => cases h
/-- the outermost thing stays as it was marked -/
theorem put_mine (s : PStep) (t c : T) : (t.put s c).mine = t.mine := by
  cases s <;> cases t <;> rfl
theorem upd_mine (π : List PStep) (t t0 t' : T) (e : T.at π t = some t0) (m : t0.mine = true) : (T.upd π t t').mine = true → t.mine = true := by
  cases π with
  | nil => cases e; exact fun _ => m
  | cons s π =>
    intro h
    have h' : (match t.get s with
      | some c => t.put s (T.upd π c t')
      | none => t).mine = true := h
    cases hc : t.get s with
    | none => rw [hc] at h'; exact h'
    | some c => rw [hc] at h'; simp only [put_mine] at h'; exact h'
theorem nodup_mid {α : Type} {A M M' B : List α} (n : (A ++ (M ++ B)).Nodup) (n' : M'.Nodup) (h : ∀ b ∈ M', b ∈ M ∨ (b ∉ A ∧ b ∉ B)) : (A ++ (M' ++ B)).Nodup := by
  obtain ⟨nA, nMB, dA⟩ := List.nodup_append.mp n
  obtain ⟨nM, nB, dM⟩ := List.nodup_append.mp nMB
  refine List.nodup_append.mpr ⟨nA, List.nodup_append.mpr ⟨n', nB, fun a ha b hb e => ?_⟩, fun a ha b hb e => ?_⟩
  · subst e
    rcases h a ha with h | h
    · exact dM a h a hb rfl
    · exact h.2 hb
  · subst e
    rcases List.mem_append.mp hb with hb | hb
    · rcases h a hb with h | h
      · exact dA a ha a (List.mem_append_left _ h) rfl
      · exact h.1 ha
    · exact dA a ha a (List.mem_append_right _ hb) rfl
theorem mine_ref {v : V} {t : T} {f : Fps} (r : RepT K G H v t f) (m : t.mine = true) : ∃ a o g, v = .ref a ∧ H a = some o ∧ G.obj a = none ∧ Plain o ∧ f = (true, a) :: g := by
  cases r with
  | fr _ => cases m
  | tup _ _ => cases m
  | lst e n _ => cases (show _ = true from m); exact ⟨_, _, _, rfl, e, n, plain_lst, rfl⟩
  | dk e n _ => cases (show _ = true from m); exact ⟨_, _, _, rfl, e, n, plain_dK, rfl⟩
  | dt e n _ => cases (show _ = true from m); exact ⟨_, _, _, rfl, e, n, plain_dT, rfl⟩
  | ins e n _ _ _ => cases (show _ = true from m); exact ⟨_, _, _, rfl, e, n, plain_ins, rfl⟩
/-- THE NODE: an own thing deep in a slot is changed -/
structure Node (K : PySem.W.Frag) (Z : Ctx) (G : Gh) (H : Hp) (σ : L2.St) (ρ : Rho) (i : Nat) (π : List PStep) (t t0 : T) (v : V) (a : Addr) (g : Fps) : Prop where
  slot : σ[i]? = some (some v)
  at' : reach H π v t = some (.ref a)
  rep : RepT K G H (.ref a) t0 ((true, a) :: g)
  ng : G.obj a = none
  pl : ∃ o, H a = some o ∧ Plain o
  nd : (mines ((true, a) :: g)).Nodup
  own : ∀ b, (true, b) ∈ (true, a) :: g → Z.H0 b = none
  len : ∀ b, (false, b) ∈ g → Z.H0 b ≠ none
  inner : ∀ q ∈ g, q.2 ≠ a
  put : ∀ (o' : HO) (t0' : T) (g' : Fps) (G1 : Gh) (H1 : Hp) (c : Nat), Ext c G H G1 H1 → RepT K G1 (upd H1 a o') (.ref a) t0' g' → (mines g').Nodup → (∀ b, (true, b) ∈ g' → (true, b) ∈ (true, a) :: g ∨ H b = none) → (∀ b, (false, b) ∈ g' → (false, b) ∈ g ∨ Z.H0 b ≠ none) →
    StOk K Z G1 (upd H1 a o') σ (ρ.set i (some (T.upd π t t0'))) ∧ reach (upd H1 a o') π v (T.upd π t t0') = some (.ref a)
theorem StOk.node {Z : Ctx} {σ : L2.St} {ρ : Rho} (s : StOk K Z G H σ ρ) {i : Nat} {π : List PStep} {t t0 : T} (e : look ρ i = some t) (ea : T.at π t = some t0) (m : t0.mine = true) : ∃ v a g, Node K Z G H σ ρ i π t t0 v a g := by
  obtain ⟨fp, r, n, mm, l⟩ := s.rep
  obtain ⟨v, F1, f, F2, rfl, e2, rt, k⟩ := RepS.split i r e
  obtain ⟨v0, f1, f0, f2, rfl, hr, r0, kk⟩ := rt.path π ea
  obtain ⟨a, o, g, rfl, ho, ng, plo, rfl⟩ := mine_ref r0 m
  have mem0 : ∀ q, q ∈ (true, a) :: g → q ∈ F1 ++ (f1 ++ ((true, a) :: g ++ f2) ++ F2) := fun q hq => List.mem_append_right _ (List.mem_append_left _ (List.mem_append_right _ (List.mem_append_left _ hq)))
  have memO : ∀ q, q ∈ (F1 ++ f1) ++ (f2 ++ F2) → q ∈ F1 ++ (f1 ++ ((true, a) :: g ++ f2) ++ F2) := fun q hq => by
    simp only [List.mem_append] at hq ⊢
    rcases hq with (h | h) | (h | h)
    · exact .inl h
    · exact .inr (.inl (.inl h))
    · exact .inr (.inl (.inr (.inr h)))
    · exact .inr (.inr h)
  have own : Z.H0 a = none := mm a (mem0 _ (List.mem_cons_self ..))
  have eq : mines (F1 ++ (f1 ++ ((true, a) :: g ++ f2) ++ F2)) = mines (F1 ++ f1) ++ (mines ((true, a) :: g) ++ mines (f2 ++ F2)) := by
    simp only [mines_app, List.append_assoc]
  rw [eq] at n
  have n1 := List.nodup_append.mp n
  have n2 := List.nodup_append.mp n1.2.1
  have n3 := List.nodup_cons.mp (show (a :: mines g).Nodup from n2.1)
  have inner : ∀ q ∈ g, q.2 ≠ a := fun q hq e => by
    obtain ⟨b, q2⟩ := q
    have e2 : a = q2 := e.symm
    subst e2
    cases b with
    | true => exact n3.1 (mem_mines.mpr hq)
    | false => exact l a (mem0 _ (List.mem_cons_of_mem _ hq)) own
  have other : ∀ q, q ∈ (F1 ++ f1) ++ (f2 ++ F2) → q.2 ≠ a := fun q hq e => by
    obtain ⟨b, q2⟩ := q
    have e2 : a = q2 := e.symm
    subst e2
    cases b with
    | true =>
      rcases List.mem_append.mp hq with h | h
      · exact n1.2.2 a (mem_mines.mpr h) a (List.mem_append_left _ (List.mem_cons_self ..)) rfl
      · exact n2.2.2 a (List.mem_cons_self ..) a (mem_mines.mpr h) rfl
    | false => exact l a (memO _ hq) own
  refine ⟨v, a, g, e2, hr, r0, ng, ⟨o, ho, plo⟩, n2.1, fun b hb => mm b (mem0 _ hb), fun b hb => l b (mem0 _ (List.mem_cons_of_mem _ hb)), inner, fun o' t0' g' G1 H1 c x r' nd' own' len' => ?_⟩
  have sx := s.ext x
  have ng1 := (x.stay ho ng).2
  have ha1 := (x.stay ho ng).1
  have keepQ : ∀ q ∈ (F1 ++ f1) ++ (f2 ++ F2), ∀ u, H q.2 = some u → G.obj q.2 = none → upd H1 a o' q.2 = some u ∧ G1.obj q.2 = none := fun q hq u e ng => by
    rw [upd_ne (other q hq)]; exact x.stay e ng
  have hthere := repS_there r
  have q1 := kk G1 (upd H1 a o') t0' g' x.sub (fun q hq => keepQ q (by
    rcases List.mem_append.mp hq with h | h
    · exact List.mem_append_left _ (List.mem_append_right _ h)
    · exact List.mem_append_right _ (List.mem_append_left _ h))) r'
  have q2 := k G1 (upd H1 a o') (T.upd π t t0') _ x.sub (fun q hq => keepQ q (by
    rcases List.mem_append.mp hq with h | h
    · exact List.mem_append_left _ (List.mem_append_left _ h)
    · exact List.mem_append_right _ (List.mem_append_right _ h))) q1.1
  refine ⟨?_, q1.2⟩
  refine ⟨sx.hd.upd ng1 (fun u e => by rw [ha1] at e; cases e; exact plo) _, ⟨_, q2, ?_, fun b hb => ?_, fun b hb => ?_⟩, sx.sub, sx.new, fun b u eb nr => ?_, fun b nb => ?_, sx.lo, fun j u w e4 e5 e6 => ?_⟩
  · have eq' : mines (F1 ++ (f1 ++ (g' ++ f2) ++ F2)) = mines (F1 ++ f1) ++ (mines g' ++ mines (f2 ++ F2)) := by simp only [mines_app, List.append_assoc]
    rw [eq']
    refine nodup_mid n nd' fun b hb => ?_
    rcases own' b (mem_mines.mp hb) with h | h
    · exact .inl (mem_mines.mpr h)
    · refine .inr ⟨fun z => ?_, fun z => ?_⟩
      · exact hthere _ (memO _ (List.mem_append_left _ (mem_mines.mp z))) h
      · exact hthere _ (memO _ (List.mem_append_right _ (mem_mines.mp z))) h
  · have hz : ∀ b, H b = none → Z.H0 b = none := fun b hb => by
      cases q : Z.H0 b with
      | none => rfl
      | some u => exact absurd hb (s.there b (by rw [q]; exact fun z => nomatch z))
    rcases List.mem_append.mp hb with h | h
    · exact mm b (memO _ (List.mem_append_left _ (List.mem_append_left _ h)))
    · rcases List.mem_append.mp h with h | h
      · rcases List.mem_append.mp h with h | h
        · exact mm b (memO _ (List.mem_append_left _ (List.mem_append_right _ h)))
        · rcases List.mem_append.mp h with h | h
          · rcases own' b h with h | h
            · exact mm b (mem0 _ h)
            · exact hz b h
          · exact mm b (memO _ (List.mem_append_right _ (List.mem_append_left _ h)))
      · exact mm b (memO _ (List.mem_append_right _ (List.mem_append_right _ h)))
  · rcases List.mem_append.mp hb with h | h
    · exact l b (memO _ (List.mem_append_left _ (List.mem_append_left _ h)))
    · rcases List.mem_append.mp h with h | h
      · rcases List.mem_append.mp h with h | h
        · exact l b (memO _ (List.mem_append_left _ (List.mem_append_right _ h)))
        · rcases List.mem_append.mp h with h | h
          · rcases len' b h with h | h
            · exact l b (mem0 _ (List.mem_cons_of_mem _ h))
            · exact h
          · exact l b (memO _ (List.mem_append_right _ (List.mem_append_left _ h)))
      · exact l b (memO _ (List.mem_append_right _ (List.mem_append_right _ h)))
  · have nb : b ≠ a := fun z => by subst z; rw [eb] at own; cases own
    rw [upd_ne nb]; exact sx.keep b u eb nr
  · by_cases z : b = a
    · rw [z, upd_same]; exact fun z => nomatch z
    · rw [upd_ne z]; exact sx.there b nb
  · by_cases h : i = j
    · subst h
      rcases look_set_eq ρ i (some (T.upd π t t0')) with q | q
      · rw [q] at e5; cases e5
        exact s.pin i u t e4 e (upd_mine π t t0 t0' ea m e6)
      · rw [q] at e5; cases e5
    · rw [look_set_ne ρ i j _ h] at e5
      exact s.pin j u w e4 e5 e6
end
end TL
set_option Elab.async false
set_option linter.all false
set_option maxRecDepth 100000
set_option maxHeartbeats 1000000
/-! TL16: expressions that name a place in a slot; expressions that make new things of our own; changes in place. -/
namespace TL
open PySem PySem.Spec PyProof.Rows L2
abbrev TWP := Rho → (Nat → List PStep → Prop) → Prop
/-- v stands at π in slot i -/
def Pth (K : PySem.W.Frag) (G : Gh) (H : Hp) (σ : L2.St) (ρ : Rho) (fp : Fps) (i : Nat) (π : List PStep) (v : V) : Prop :=
  ∃ t t0 v0 g, look ρ i = some t ∧ T.at π t = some t0 ∧ σ[i]? = some (some v0) ∧ reach H π v0 t = some v ∧ RepT K G H v t0 g ∧ ∀ q ∈ g, q ∈ fp
def liftP (K : PySem.W.Frag) (c : Nat) (w : TWP) : TE := fun σ H Q => ∃ G ρ fp P, Holds G H ∧ RepS K G H σ ρ fp ∧ G.n + c ≤ LIM ∧ w ρ P ∧
  ∀ v i π G' H', Ext c G H G' H' → Pth K G' H' σ ρ fp i π v → LenOk K H' → P i π → Q v H'
def WP (X : Cx) (c : Nat) (e : Expr) (w : TWP) : Prop := PE X e (liftP X.K c w)
section
variable {K : PySem.W.Frag} {G G' : Gh} {H H' : Hp} {c : Nat} {σ : L2.St} {ρ : Rho} {fp : Fps}
theorem Pth.ext {i : Nat} {π : List PStep} {v : V} (r0 : RepS K G H σ ρ fp) (p : Pth K G H σ ρ fp i π v) (x : Ext c G H G' H') : Pth K G' H' σ ρ fp i π v := by
  obtain ⟨t, t0, v0, g, e1, e2, e3, e4, r, m⟩ := p
  obtain ⟨v1, f, e5, rt, _⟩ := r0.look e1
  rw [e3] at e5; cases e5
  exact ⟨t, t0, v0, g, e1, e2, e3, by rw [reach_eq π rt (fun q hq o e n => (x.stay e n).1) e2]; exact e4, r.ext x, m⟩
theorem Pth.rep {i : Nat} {π : List PStep} {v : V} {t t0 : T} (p : Pth K G H σ ρ fp i π v) (e : look ρ i = some t) (ea : T.at π t = some t0) : ∃ g, RepT K G H v t0 g ∧ ∀ q ∈ g, q ∈ fp := by
  obtain ⟨t', t0', v0, g, e1, e2, e3, e4, r, m⟩ := p
  rw [e1] at e; cases e
  rw [e2] at ea; cases ea
  exact ⟨g, r, m⟩
/-- one step more -/
theorem Pth.step {i : Nat} {π : List PStep} {v : V} {t t0 c0 : T} {s : PStep} (p : Pth K G H σ ρ fp i π v) (e : look ρ i = some t) (ea : T.at π t = some t0) (eg : t0.get s = some c0) :
    ∃ a n w, v = .ref a ∧ t0.idx s = some n ∧ kidAt H a n = some w ∧ Pth K G H σ ρ fp i (π ++ [s]) w := by
  obtain ⟨t', t0', v0, g, e1, e2, e3, e4, r, m⟩ := p
  rw [e1] at e; cases e
  rw [e2] at ea; cases ea
  obtain ⟨a, n, w, f1, f0, f2, rfl, h1, h2, rfl, rc, _, _⟩ := r.step eg
  refine ⟨a, n, w, rfl, h1, h2, t, c0, v0, f0, e1, by rw [T.at_app, e2]; exact eg, e3, ?_, rc, fun q hq => m q (List.mem_append_right _ (List.mem_append_left _ hq))⟩
  rw [reach_app π s v0 (.ref a) (.ref a) t0 e4 e2]
  show (match t0.idx s, t0.get s with
    | some n, some c => match kidAt H a n with
      | some w => reach H [] w c
      | none => none
    | _, _ => none) = some w
  rw [h1, eg]
  simp only []
  rw [h2]
  rfl
theorem val_idx {κ κ' : Type} [DecidableEq κ] [DecidableEq κ'] (g : κ → κ') (hg : ∀ a b, g a = g b → a = b) {α : Type} : ∀ (kvs : List (κ × α)) (vs : List V) (k : κ) (n : Nat) (w : V), idxK k kvs = some n → vs[n]? = some w → valV ((kvs.map (g ·.1)).zip vs) (g k) = some w
  | [], _, _, _, _, h, _ => by cases h
  | (k', x) :: kvs, [], k, n, w, h, h2 => by simp at h2
  | (k', x) :: kvs, v :: vs, k, n, w, h, h2 => by
    by_cases e : k' = k
    · subst e
      have : 0 = n := by simpa [idxK] using h
      subst this
      simp only [List.getElem?_cons_zero, Option.some.injEq] at h2
      subst h2
      exact valV_pos rfl
    · simp only [idxK, if_neg e] at h
      cases hn : idxK k kvs with
      | none => rw [hn] at h; cases h
      | some m =>
        rw [hn] at h; cases h
        rw [List.map_cons, List.zip_cons_cons, valV_neg (fun z => e (hg _ _ z))]
        exact val_idx g hg kvs vs k m w hn (by simpa using h2)
theorem val_no {κ κ' : Type} [DecidableEq κ] [DecidableEq κ'] (g : κ → κ') (hg : ∀ a b, g a = g b → a = b) {α : Type} : ∀ (kvs : List (κ × α)) (vs : List V) (k : κ), idxK k kvs = none → valV ((kvs.map (g ·.1)).zip vs) (g k) = none
  | [], _, _, _ => rfl
  | (k', x) :: kvs, [], k, h => rfl
  | (k', x) :: kvs, v :: vs, k, h => by
    by_cases e : k' = k
    · subst e; simp [idxK] at h
    · simp only [idxK, if_neg e] at h
      rw [List.map_cons, List.zip_cons_cons, valV_neg (fun z => e (hg _ _ z))]
      exact val_no g hg kvs vs k (by cases hn : idxK k kvs with | none => rfl | some m => rw [hn] at h; cases h)
theorem lookup_idx {α : Type} : ∀ (fs : List (Str × α)) (vs : List V) (f : Str) (n : Nat) (w : V), idxK f fs = some n → vs[n]? = some w → ((fs.map (·.1)).zip vs).lookup f = some w
  | [], _, _, _, _, h, _ => by cases h
  | (k', x) :: kvs, [], k, n, w, h, h2 => by simp at h2
  | (k', x) :: kvs, v :: vs, k, n, w, h, h2 => by
    rw [List.map_cons, List.zip_cons_cons, List.lookup_cons]
    by_cases e : k' = k
    · subst e
      have : 0 = n := by simpa [idxK] using h
      subst this
      simp only [List.getElem?_cons_zero, Option.some.injEq] at h2
      subst h2
      simp
    · simp only [idxK, if_neg e] at h
      cases hn : idxK k kvs with
      | none => rw [hn] at h; cases h
      | some m =>
        rw [hn] at h; cases h
        have : (k == k') = false := by simp; exact fun z => e z.symm
        simp only [this]
        exact lookup_idx kvs vs k m w hn (by simpa using h2)
theorem putF_in {α : Type} (y : V) : ∀ (fs : List (Str × α)) (vs : List V) (f : Str) (n : Nat), vs.length = fs.length → idxK f fs = some n → putF f y ((fs.map (·.1)).zip vs) = (fs.map (·.1)).zip (vs.set n y)
  | [], _, _, _, _, h => by cases h
  | (k', x) :: kvs, [], k, n, h2, h => by simp at h2
  | (k', x) :: kvs, v :: vs, k, n, h2, h => by
    rw [List.map_cons, List.zip_cons_cons]
    by_cases e : k' = k
    · subst e
      have : 0 = n := by simpa [idxK] using h
      subst this
      simp [putF]
    · simp only [idxK, if_neg e] at h
      cases hn : idxK k kvs with
      | none => rw [hn] at h; cases h
      | some m =>
        rw [hn] at h; cases h
        simp only [putF, if_neg e, List.set_cons_succ, List.zip_cons_cons]
        rw [putF_in y kvs vs k m (by simpa using h2) hn]
theorem putF_new {α : Type} (y : V) : ∀ (fs : List (Str × α)) (vs : List V) (f : Str), vs.length = fs.length → idxK f fs = none → putF f y ((fs.map (·.1)).zip vs) = ((fs.map (·.1)) ++ [f]).zip (vs ++ [y])
  | [], [], _, _, _ => rfl
  | [], _ :: _, _, h, _ => by simp at h
  | (k', x) :: kvs, [], k, h2, h => by simp at h2
  | (k', x) :: kvs, v :: vs, k, h2, h => by
    rw [List.map_cons, List.zip_cons_cons]
    by_cases e : k' = k
    · subst e; simp [idxK] at h
    · simp only [idxK, if_neg e] at h
      simp only [putF, if_neg e, List.cons_append, List.zip_cons_cons]
      rw [putF_new y kvs vs k (by simpa using h2) (by cases hn : idxK k kvs with | none => rfl | some m => rw [hn] at h; cases h)]
theorem putK_in {κ κ' : Type} [DecidableEq κ] [DecidableEq κ'] (g : κ → κ') {α : Type} (y : V) (kvs : List (κ × α)) (vs : List V) (k : κ) (n : Nat) (hl : vs.length = kvs.length) (h : idxK k kvs = some n) (nd : (kvs.map (g ·.1)).Nodup) :
    putK ((kvs.map (g ·.1)).zip vs) (g k) y = (kvs.map (g ·.1)).zip (vs.set n y) := by
  have any : ∀ (kvs : List (κ × α)) (vs : List V) (n : Nat), vs.length = kvs.length → idxK k kvs = some n → (((kvs.map (g ·.1)).zip vs).any fun kv => decide (kv.1 = g k)) = true := by
    intro kvs
    induction kvs with
    | nil => intro vs n _ h; cases h
    | cons p kvs ih =>
      intro vs n hl h
      obtain ⟨k', x⟩ := p
      cases vs with
      | nil => simp at hl
      | cons v vs =>
        by_cases e : k' = k
        · subst e; simp
        · simp only [idxK, if_neg e] at h
          cases hn : idxK k kvs with
          | none => rw [hn] at h; cases h
          | some m =>
            rw [List.map_cons, List.zip_cons_cons, List.any_cons, ih vs m (by simpa using hl) hn, Bool.or_true]
  have same : ∀ (kvs : List (κ × α)) (vs : List V), (∀ p ∈ kvs, g p.1 ≠ g k) → ((kvs.map (g ·.1)).zip vs).map (fun kv => if kv.1 = g k then (kv.1, y) else kv) = (kvs.map (g ·.1)).zip vs := by
    intro kvs
    induction kvs with
    | nil => intro vs _; rfl
    | cons p kvs ih =>
      intro vs h
      cases vs with
      | nil => rfl
      | cons v vs =>
        rw [List.map_cons, List.zip_cons_cons, List.map_cons, ih vs (fun q hq => h q (List.mem_cons_of_mem _ hq)), if_neg (h p (List.mem_cons_self ..))]
  have core : ∀ (kvs : List (κ × α)) (vs : List V) (n : Nat), vs.length = kvs.length → idxK k kvs = some n → (kvs.map (g ·.1)).Nodup → ((kvs.map (g ·.1)).zip vs).map (fun kv => if kv.1 = g k then (kv.1, y) else kv) = (kvs.map (g ·.1)).zip (vs.set n y) := by
    intro kvs
    induction kvs with
    | nil => intro vs n _ h; cases h
    | cons p kvs ih =>
      intro vs n hl h nd
      obtain ⟨k', x⟩ := p
      cases vs with
      | nil => simp at hl
      | cons v vs =>
        have nd' := List.nodup_cons.mp (show (g k' :: kvs.map (g ·.1)).Nodup from nd)
        by_cases e : k' = k
        · subst e
          have : 0 = n := by simpa [idxK] using h
          subst this
          rw [List.map_cons, List.zip_cons_cons, List.map_cons, if_pos rfl, same kvs vs fun q hq z => nd'.1 (by rw [← z]; exact List.mem_map.mpr ⟨q, hq, rfl⟩)]
          rfl
        · simp only [idxK, if_neg e] at h
          cases hn : idxK k kvs with
          | none => rw [hn] at h; cases h
          | some m =>
            rw [hn] at h; cases h
            obtain ⟨x2, hx2, hk2⟩ : ∃ x2 ∈ kvs, x2.1 = k := by
              clear nd nd' ih hl
              induction kvs generalizing m with
              | nil => cases hn
              | cons q kvs ih2 =>
                obtain ⟨q1, q2⟩ := q
                by_cases e2 : q1 = k
                · exact ⟨_, List.mem_cons_self .., e2⟩
                · simp only [idxK, if_neg e2] at hn
                  cases hm : idxK k kvs with
                  | none => rw [hm] at hn; cases hn
                  | some m2 => obtain ⟨x2, h1, h2⟩ := ih2 m2 hm; exact ⟨x2, List.mem_cons_of_mem _ h1, h2⟩
            have ne : g k' ≠ g k := fun z => nd'.1 (by rw [z, ← hk2]; exact List.mem_map.mpr ⟨x2, hx2, rfl⟩)
            rw [List.map_cons, List.zip_cons_cons, List.map_cons, if_neg ne, ih vs m (by simpa using hl) hn nd'.2]
            rfl
  unfold putK
  rw [if_pos (any kvs vs n hl h), core kvs vs n hl h nd]
theorem zip_snoc {α β : Type} (a : α) (b : β) : ∀ (xs : List α) (ys : List β), xs.length = ys.length → (xs ++ [a]).zip (ys ++ [b]) = xs.zip ys ++ [(a, b)]
  | [], [], _ => rfl
  | x :: xs, y :: ys, h => by simp [zip_snoc a b xs ys (by simpa using h)]
  | [], _ :: _, h => by simp at h
  | _ :: _, [], h => by simp at h
theorem putK_out {κ κ' : Type} [DecidableEq κ] [DecidableEq κ'] (g : κ → κ') (hg : ∀ a b, g a = g b → a = b) {α : Type} (y : V) (x : α) (kvs : List (κ × α)) (vs : List V) (k : κ) (hl : vs.length = kvs.length) (h : idxK k kvs = none) :
    putK ((kvs.map (g ·.1)).zip vs) (g k) y = (((kvs ++ [(k, x)]).map (g ·.1)).zip (vs ++ [y])) := by
  rw [putK_new y (val_no g hg kvs vs k h), List.map_append]
  exact (zip_snoc (g k) y (kvs.map (g ·.1)) vs (by rw [hl, List.length_map])).symm
def putT {κ : Type} [DecidableEq κ] {α : Type} (k : κ) (x : α) (kvs : List (κ × α)) : List (κ × α) := match idxK k kvs with
  | some _ => setK k x kvs
  | none => kvs ++ [(k, x)]
theorem idxK_set {κ : Type} [DecidableEq κ] {α : Type} (k : κ) : ∀ (kvs : List (κ × α)) (n : Nat) (y : α), idxK k kvs = some n → n < kvs.length ∧ (setK k y kvs).map (·.2) = (kvs.map (·.2)).set n y ∧ (setK k y kvs).map (·.1) = kvs.map (·.1)
  | [], _, _, h => by cases h
  | (k', x) :: kvs, n, y, h => by
    by_cases e : k' = k
    · subst e
      have : 0 = n := by simpa [idxK] using h
      subst this
      simp [setK]
    · simp only [idxK, if_neg e] at h
      cases hn : idxK k kvs with
      | none => rw [hn] at h; cases h
      | some m =>
        rw [hn] at h; cases h
        obtain ⟨h1, h2, h3⟩ := idxK_set k kvs m y hn
        exact ⟨by simpa using h1, by simp [setK, e, h2], by simp [setK, e, h3]⟩
theorem RepTs.setAt {v : V} {t : T} {f' : Fps} (r' : RepT K G H v t f') : ∀ {vs : List V} {ts : List T} {f : Fps} {n : Nat}, RepTs K G H vs ts f → n < ts.length → ∃ f1 f0 f2, f = f1 ++ (f0 ++ f2) ∧ RepTs K G H (vs.set n v) (ts.set n t) (f1 ++ (f' ++ f2))
  | _, _, _, _, .nil, h => by simp at h
  | _, _, _, 0, .cons (f := f) (g := g) r s, h => ⟨[], f, g, rfl, show RepTs K G H _ _ (f' ++ g) from .cons r' s⟩
  | _, _, _, n + 1, .cons (f := f0) r0 s, h => by
    obtain ⟨f1, f, f2, rfl, q⟩ := RepTs.setAt r' s (by simpa using h)
    exact ⟨f0 ++ f1, f, f2, by rw [List.append_assoc], by rw [List.append_assoc]; exact .cons r0 q⟩
theorem RepTs.snoc {v : V} {t : T} {f' : Fps} (r' : RepT K G H v t f') : ∀ {vs : List V} {ts : List T} {f : Fps}, RepTs K G H vs ts f → RepTs K G H (vs ++ [v]) (ts ++ [t]) (f ++ f')
  | _, _, _, .nil => by
    have q := RepTs.cons r' RepTs.nil
    rw [List.append_nil] at q
    exact q
  | _, _, _, .cons (f := f0) r0 s => by
    rw [List.append_assoc]
    exact .cons r0 (RepTs.snoc r' s)
end
end TL
set_option Elab.async false
set_option linter.all false
set_option maxRecDepth 100000
set_option maxHeartbeats 1000000
/-! TL17: new things of our own; changes in place. -/
namespace TL
open PySem PySem.Spec PyProof.Rows L2
def Fresh (H : Hp) (f : Fps) : Prop := (mines f).Nodup ∧ ∀ q ∈ f, q.1 = true ∧ H q.2 = none
theorem fresh_nil {H : Hp} : Fresh H [] := ⟨List.nodup_nil, fun _ z => nomatch z⟩
def liftMk (K : PySem.W.Frag) (c : Nat) (w : TW) : TE := fun σ H Q => ∃ G ρ fp P, Holds G H ∧ RepS K G H σ ρ fp ∧ G.n + c ≤ LIM ∧ w ρ P ∧
  ∀ v t f G' H', Ext c G H G' H' → RepT K G' H' v t f → Fresh H f → LenOk K H' → P t → Q v H'
def liftMks (K : PySem.W.Frag) (c : Nat) (w : TWs) : TA := fun σ H Q => ∃ G ρ fp P, Holds G H ∧ RepS K G H σ ρ fp ∧ G.n + c ≤ LIM ∧ w ρ P ∧
  ∀ vs ts f G' H', Ext c G H G' H' → RepTs K G' H' vs ts f → Fresh H f → LenOk K H' → P ts → Q vs H'
def WMk (X : Cx) (c : Nat) (e : Expr) (w : TW) : Prop := PE X e (liftMk X.K c w)
def WMks (X : Cx) (c : Nat) (es : List Expr) (w : TWs) : Prop := PA X es (liftMks X.K c w)
section
variable {K : PySem.W.Frag} {G G' G1 G3 : Gh} {H H' H1 H3 : Hp} {c : Nat} {σ : L2.St} {ρ : Rho} {fp : Fps} {Z : Ctx}
theorem Fresh.app {f g : Fps} (x : Ext c G H G1 H1) (r : ∀ q ∈ f, H1 q.2 ≠ none) (a : Fresh H f) (b : Fresh H1 g) : Fresh H (f ++ g) := by
  refine ⟨?_, fun q hq => ?_⟩
  · rw [mines_app]
    refine List.nodup_append.mpr ⟨a.1, b.1, fun p hp q hq e => ?_⟩
    subst e
    exact r _ (mem_mines.mp hp) (b.2 _ (mem_mines.mp hq)).2
  · rcases List.mem_append.mp hq with h | h
    · exact a.2 q h
    · exact ⟨(b.2 q h).1, x.back_none (b.2 q h).2⟩
theorem Fresh.cons {f : Fps} {p : Addr} (a : Fresh H f) (hp : H p = none) (n : ∀ q ∈ f, q.2 ≠ p) : Fresh H ((true, p) :: f) := by
  refine ⟨List.nodup_cons.mpr ⟨fun z => n _ (mem_mines.mp z) rfl, a.1⟩, fun q hq => ?_⟩
  rcases List.mem_cons.mp hq with rfl | hq
  · exact ⟨rfl, hp⟩
  · exact a.2 q hq
end
section
variable {X : Cx} {e : Expr} {es : List Expr} {pos : Pos} {c ca cb : Nat} {w wa : TW} {ws : TWs} {wn : TWN}
/-- data, where a new thing is wanted -/
def mD (w : TW) : TW := fun ρ P => w ρ (asD fun d => P (.fr d))
theorem wk_we (h : WE X c e w) : WMk X c e (mD w) := PE.imp h fun σ H Q ⟨G, ρ, fp, P, hd, rs, hn, hw, k⟩ =>
  ⟨G, ρ, fp, _, hd, rs, hn, hw, fun v t f G' H' x r _ lk p lk2 => by
    obtain ⟨d, rfl, rd, p⟩ := isD r p
    exact k v _ [] G' H' x (.fr rd) fresh_nil lk p⟩
def mN (w : TWN) : TW := fun ρ P => w ρ fun ds => P (.lst true (ds.map .fr))
theorem wk_wn (h : WN X c e wn) : WMk X c e (mN wn) := PE.imp h fun σ H Q ⟨G, ρ, fp, P, hd, rs, hn, hw, k⟩ =>
  ⟨G, ρ, fp, _, hd, rs, hn, hw, fun p vs ds G' H' x hp hg hl rd lk q lk2 =>
    k (.ref p) _ [(true, p)] G' H' x (.lst hl hg rd.ts) (fresh_nil.cons hp fun _ z => nomatch z) lk q⟩
theorem wks_nil : WMks X 0 [] wNil := PA.imp pa_nil fun σ H Q ⟨G, ρ, fp, P, hd, rs, hn, hw, k⟩ lk => k [] [] [] G H (Ext.refl hd) .nil fresh_nil lk hw
theorem wks_cons (ha : WMk X ca e wa) (hr : WMks X cb es ws) (hs : starEach (e :: es) X.env = (false, eval e X.env) :: starEach es X.env := by rfl) : WMks X (ca + cb) (e :: es) (wCons wa ws) := PA.imp (pa_cons ha hr hs) fun σ H Q ⟨G, ρ, fp, P, hd, rs, hn, hw, k⟩ => by
  refine ⟨G, ρ, fp, _, hd, rs, by omega, hw, fun v t f G1 H1 x1 r1 f1 lk1 hw1 => ?_⟩
  have := x1.hi
  refine ⟨G1, ρ, fp, _, x1.hd, rs.ext x1, by omega, hw1, fun vs ts g G2 H2 x2 r2 f2 lk2 p lk3 => ?_⟩
  exact k (v :: vs) (t :: ts) (f ++ g) G2 H2 (x1.trans x2) (.cons (r1.ext x2) r2) (f1.app x1 (repT_there r1) f2) lk2 p
/-- a list display -/
def mLst (ws : TWs) : TW := fun ρ P => ws ρ fun ts => ts.length ≤ 1000 ∧ P (.lst true ts)
theorem wk_lst (h : WMks X c es ws) : WMk X c (.List es pos) (mLst ws) := PE.imp (pe_lst h) fun σ H Q ⟨G, ρ, fp, P, hd, rs, hn, hw, k⟩ => by
  refine ⟨G, ρ, fp, _, hd, rs, hn, hw, fun vs ts f G1 H1 x1 r1 f1 lk p => ?_⟩
  refine ⟨by rw [r1.length]; exact le_line p.1, fun q hq lk2 => ?_⟩
  have ow := Ext.own x1.hd hq (.lst vs)
  have nq : ∀ z ∈ f, z.2 ≠ q := fun z hz e => repTs_there r1 z hz (e ▸ hq)
  exact k (.ref q) (.lst true ts) ((true, q) :: f) G1 _ ((x1.trans ow).more (by omega)) (.lst upd_same (x1.hd.free hq) (r1.ext ow)) (f1.cons (x1.back_none hq) nq) lk2 p.2
/-- a tuple of new things -/
def mTup (ws : TWs) : TW := fun ρ P => ws ρ fun ts => ts.length ≤ 1000 ∧ P (.tup ts)
theorem wk_tup {x1} (h : WMks X c es ws) : WMk X c (.Tuple es x1 pos) (mTup ws) := PE.imp (pe_tup h) fun σ H Q ⟨G, ρ, fp, P, hd, rs, hn, hw, k⟩ => by
  refine ⟨G, ρ, fp, _, hd, rs, hn, hw, fun vs ts f G1 H1 x1 r1 f1 lk p => ?_⟩
  refine ⟨by rw [r1.length]; exact le_line p.1, fun q hq lk2 => ?_⟩
  have ow := Ext.alloc x1.hd hq (.tup vs)
  exact k (.ref q) (.tup ts) f _ _ ((x1.trans ow).more (by omega)) (.tup Gh.put_same (r1.ext ow)) f1 lk2 p.2
def mDk0 : TW := fun _ P => P (.dk true [])
def mDt0 : TW := fun _ P => P (.dt true [])
theorem wk_dk0 : WMk X 0 (.Dict [] [] pos) mDk0 := PE.imp pe_dnewK fun σ H Q ⟨G, ρ, fp, P, hd, rs, hn, hw, k⟩ => fun p hp lk =>
  k (.ref p) (.dk true []) ((true, p) :: []) G _ (Ext.own hd hp _) (.dk (vs := []) upd_same (hd.free hp) .nil) (fresh_nil.cons hp fun _ z => nomatch z) lk hw
theorem wk_dt0 : WMk X 0 (.Dict [] [] pos) mDt0 := PE.imp pe_dnewT fun σ H Q ⟨G, ρ, fp, P, hd, rs, hn, hw, k⟩ => fun p hp lk =>
  k (.ref p) (.dt true []) ((true, p) :: []) G _ (Ext.own hd hp _) (.dt (vs := []) upd_same (hd.free hp) .nil) (fresh_nil.cons hp fun _ z => nomatch z) lk hw
end
/-! ### places -/
section
variable {X : Cx} {e b : Expr} {pos : Pos} {c ca cb : Nat} {w wb : TW} {wp : TWP}
def pVar (i : Nat) : TWP := fun ρ P => match look ρ i with
  | some _ => P i []
  | none => False
theorem wp_var {i : Nat} (h : PE X e (tVar i)) : WP X 0 e (pVar i) := PE.imp h fun σ H Q ⟨G, ρ, fp, P, hd, rs, hn, hw, k⟩ => by
  unfold pVar at hw
  cases q : look ρ i with
  | none => rw [q] at hw; exact hw.elim
  | some t =>
    rw [q] at hw
    obtain ⟨v, g, e1, r, hg⟩ := rs.look q
    exact ⟨v, e1, fun lk => k v i [] G H (Ext.refl hd) ⟨t, t, v, g, q, rfl, e1, rfl, r, hg⟩ lk hw⟩
def tAt (ρ : Rho) (i : Nat) (π : List PStep) : Option T := (look ρ i).bind (T.at π)
theorem tAt_ok {ρ : Rho} {i : Nat} {π : List PStep} {t0 : T} (h : tAt ρ i π = some t0) : ∃ t, look ρ i = some t ∧ T.at π t = some t0 := by
  unfold tAt at h
  cases q : look ρ i with
  | none => rw [q] at h; cases h
  | some t => rw [q] at h; exact ⟨t, rfl, h⟩
def pFld (C : Addr) (f : Str) (wp : TWP) : TWP := fun ρ P => wp ρ fun i π => match tAt ρ i π with
  | some (.ins _ C' fs) => C' = C ∧ (getK fs f).isSome = true ∧ P i (π ++ [.fld f])
  | _ => False
theorem wp_fld {C : Addr} {f : Str} (h : WP X c e wp) (cl : Cls X.K C) (na : NoAttr X.K C f) (hb : attributeBase e f X.env (eval e X.env) = eval e X.env := by rfl) : WP X c (.Attribute e f pos) (pFld C f wp) := PE.imp (pe_fld h hb) fun σ H Q ⟨G, ρ, fp, P, hd, rs, hn, hw, k⟩ => by
  refine ⟨G, ρ, fp, _, hd, rs, hn, hw, fun v i π G1 H1 x1 p lk hp => ?_⟩
  split at hp
  · next m C' fs ht =>
    obtain ⟨rfl, hs, hp⟩ := hp
    obtain ⟨t, e1, e2⟩ := tAt_ok ht
    obtain ⟨cc, hc⟩ := Option.isSome_iff_exists.mp hs
    obtain ⟨g, r0, _⟩ := p.rep e1 e2
    obtain ⟨a, n, w, rfl, h1, h2, p2⟩ := p.step e1 e2 (s := .fld f) hc
    cases r0 with
    | ins ha ng hx nd rt =>
      rename_i dx vs g _
      simp only [kidAt, ha, hkids] at h2
      rw [zip_vals _ _ (by rw [rt.length, List.length_map, List.length_map])] at h2
      exact ⟨a, C', dx, _, w, rfl, ha, cl, na, lookup_idx fs vs f n w h1 h2, fun lk2 => k w i (π ++ [.fld f]) G1 H1 x1 p2 lk2 hp⟩
  · exact hp.elim
def stepOf : T → T → Option PStep
  | .dk _ kvs, .fr d => (keyD d).bind fun k => if (getK kvs k).isSome = true then some (.key k) else none
  | .dt _ kvs, .fr (.tup ds) => (keysD ds).bind fun k => if (getK kvs k).isSome = true then some (.keyT k) else none
  | .lst _ ts, .fr (.int i) => (ixN ts.length i).map .ix
  | _, _ => none
def pKey (wp : TWP) (wb : TW) : TWP := fun ρ P => wp ρ fun i π => wb ρ fun tk => optP ((tAt ρ i π).bind fun t => stepOf t tk) fun s => P i (π ++ [s])
theorem optP_ok {α : Type} {o : Option α} {P : α → Prop} (h : optP o P) : ∃ x, o = some x ∧ P x := by
  cases o with
  | none => exact h.elim
  | some x => exact ⟨x, rfl, h⟩
theorem wp_key (hu : X.A.units + 1 < cLine) (h : WP X ca e wp) (hb : WE X cb b wb) (hs : PlainIx b) : WP X (ca + cb) (.Subscript e b pos) (pKey wp wb) := PE.imp (pe_ix (ix_V hu) h hb hs) fun σ H Q ⟨G, ρ, fp, P, hd, rs, hn, hw, k⟩ => by
  refine ⟨G, ρ, fp, _, hd, rs, by omega, hw, fun v i π G1 H1 x1 p lk1 hp => ?_⟩
  have := x1.hi
  refine ⟨G1, ρ, fp, _, x1.hd, rs.ext x1, by omega, hp, fun y tk g G2 H2 x2 ry _ lk2 hp2 => ?_⟩
  have p := p.ext (rs.ext x1) x2
  have x := x1.trans x2
  obtain ⟨s, hs2, hp2⟩ := optP_ok hp2
  cases ht : tAt ρ i π with
  | none => rw [ht] at hs2; cases hs2
  | some t0 =>
    rw [ht] at hs2
    simp only [Option.bind] at hs2
    obtain ⟨t, e1, e2⟩ := tAt_ok ht
    obtain ⟨g0, r0, _⟩ := p.rep e1 e2
    unfold stepOf at hs2
    split at hs2
    · next m kvs d =>
      cases hk : keyD d with
      | none => rw [hk] at hs2; cases hs2
      | some k0 =>
        rw [hk] at hs2
        simp only [Option.bind] at hs2
        split at hs2
        · next hsm =>
          cases hs2
          obtain ⟨cc, hc⟩ := Option.isSome_iff_exists.mp hsm
          obtain ⟨a, n, w, rfl, h1, h2, p2⟩ := p.step e1 e2 (s := .key k0) hc
          cases r0 with
          | dk ha ng rt =>
            rename_i vs g _
            simp only [kidAt, ha, hkids] at h2
            rw [zip_vals _ _ (by rw [rt.length, List.length_map, List.length_map])] at h2
            rw [keyD_ok ry.d.1 hk]
            refine .inr ⟨a, w, rfl, .inl ⟨_, toK k0, .inl ha, rfl, (val_idx toK toK_inj kvs vs k0 n w h1 h2).symm⟩, fun lk3 => k w i _ G2 H2 x p2 lk3 hp2⟩
        · cases hs2
    · next m kvs ds =>
      cases hk : keysD ds with
      | none => rw [hk] at hs2; cases hs2
      | some k0 =>
        rw [hk] at hs2
        simp only [Option.bind] at hs2
        split at hs2
        · next hsm =>
          cases hs2
          obtain ⟨cc, hc⟩ := Option.isSome_iff_exists.mp hsm
          obtain ⟨a, n, w, rfl, h1, h2, p2⟩ := p.step e1 e2 (s := .keyT k0) hc
          obtain ⟨bb, vs2, rfl, hbb, _, rb⟩ := ry.d.1.tup' x2.hd
          have ek := keysD_ok rb hk
          subst ek
          cases r0 with
          | dt ha ng rt =>
            rename_i vs g _
            simp only [kidAt, ha, hkids] at h2
            rw [zip_vals _ _ (by rw [rt.length, List.length_map, List.length_map])] at h2
            refine .inr ⟨a, w, rfl, .inr ⟨_, k0.map toK, bb, .inl ha, rfl, hbb, (val_idx (·.map toK) toKs_inj kvs vs k0 n w h1 h2).symm⟩, fun lk3 => k w i _ G2 H2 x p2 lk3 hp2⟩
        · cases hs2
    · next m ts j =>
      cases hk : ixN ts.length j with
      | none => rw [hk] at hs2; cases hs2
      | some n0 =>
        rw [hk] at hs2; cases hs2
        have hlt : ∃ cc, ts[n0]? = some cc := by
          cases z : ts[n0]? with
          | some cc => exact ⟨cc, rfl⟩
          | none =>
            have h3 := List.getElem?_eq_none_iff.mp z
            have h4 := (ixN_seq hk).2.1
            omega
        obtain ⟨cc, hc⟩ := hlt
        obtain ⟨a, n, w, rfl, h1, h2, p2⟩ := p.step e1 e2 (s := .ix n0) hc
        cases h1
        cases r0 with
        | lst ha ng rt =>
          rename_i vs g _
          simp only [kidAt, ha, hkids] at h2
          rw [ry.d.1.int']
          refine .inl (.inl ⟨a, vs, j, w, rfl, rfl, SqL.of ha, ?_, fun lk3 => k w i _ G2 H2 x p2 lk3 hp2⟩)
          unfold atI
          rw [rt.length, hk]
          exact h2
    · cases hs2
end
end TL
set_option Elab.async false
set_option linter.all false
set_option maxRecDepth 100000
set_option maxHeartbeats 1000000
/-! TL18: changes in place. -/
namespace TL
open PySem PySem.Spec PyProof.Rows L2
section
variable {K : PySem.W.Frag} {G G' G1 G3 : Gh} {H H' H1 H3 : Hp} {c : Nat} {σ : L2.St} {ρ : Rho} {fp : Fps} {Z : Ctx} {i : Nat} {π : List PStep} {t t0 : T} {v : V} {a : Addr} {g : Fps}
theorem mem3 {q : Bool × Addr} {f1 f0 f2 f' : Fps} (h : q ∈ f1 ++ (f' ++ f2)) : q ∈ f1 ++ (f0 ++ f2) ∨ q ∈ f' := by
  simp only [List.mem_append] at h ⊢
  rcases h with h | h | h
  · exact .inl (.inl h)
  · exact .inr h
  · exact .inl (.inr (.inr h))
theorem Node.there (N : Node K Z G H σ ρ i π t t0 v a g) : H a ≠ none := by
  obtain ⟨o, e, _⟩ := N.pl
  rw [e]; exact fun z => nomatch z
/-- what stands in it is not the thing itself -/
theorem Node.ne (N : Node K Z G H σ ρ i π t t0 v a g) {f' h : Fps} (fr : Fresh H f') (sub : ∀ q ∈ h, q ∈ g ∨ q ∈ f') : ∀ q ∈ h, q.2 ≠ a := fun q hq e => by
  rcases sub q hq with z | z
  · exact N.inner q z e
  · exact N.there (e ▸ (fr.2 q z).2)
theorem Node.up (N : Node K Z G H σ ρ i π t t0 v a g) {f' h : Fps} (fr : Fresh H f') (sub : ∀ q ∈ h, q ∈ g ∨ q ∈ f') {vs : List V} {ts : List T} (r : RepTs K G3 H3 vs ts h) (o' : HO) : RepTs K G3 (upd H3 a o') vs ts h :=
  r.mono (fun _ _ e => e) fun q hq o e ng => ⟨by rw [upd_ne (N.ne fr sub q hq)]; exact e, ng⟩
theorem Node.chg (N : Node K Z G H σ ρ i π t t0 v a g) {f1 f0 f2 f' : Fps} (x : Ext c G H G3 H3) (fr : Fresh H f') (eg : g = f1 ++ (f0 ++ f2)) {o' : HO} {t0' : T} (r : RepT K G3 (upd H3 a o') (.ref a) t0' ((true, a) :: (f1 ++ (f' ++ f2)))) :
    StOk K Z G3 (upd H3 a o') σ (ρ.set i (some (T.upd π t t0'))) ∧ reach (upd H3 a o') π v (T.upd π t t0') = some (.ref a) := by
  have n : (a :: mines g).Nodup := N.nd
  have n2 := List.nodup_cons.mp n
  subst eg
  have th : ∀ b ∈ mines (f1 ++ (f0 ++ f2)), H b ≠ none := fun b hb => repT_there N.rep _ (List.mem_cons_of_mem _ (mem_mines.mp hb))
  refine N.put o' t0' _ G3 H3 c x r ?_ (fun b hb => ?_) (fun b hb => ?_)
  · show (a :: mines (f1 ++ (f' ++ f2))).Nodup
    refine List.nodup_cons.mpr ⟨fun z => ?_, ?_⟩
    · rcases mem3 (f0 := f0) (mem_mines.mp z) with h | h
      · exact n2.1 (mem_mines.mpr h)
      · exact N.there (fr.2 _ h).2
    · have n3 := n2.2
      rw [mines_app, mines_app] at n3 ⊢
      refine nodup_mid n3 fr.1 fun b hb => .inr ⟨fun z => ?_, fun z => ?_⟩
      · exact th b (by rw [mines_app]; exact List.mem_append_left _ z) (fr.2 _ (mem_mines.mp hb)).2
      · exact th b (by rw [mines_app, mines_app]; exact List.mem_append_right _ (List.mem_append_right _ z)) (fr.2 _ (mem_mines.mp hb)).2
  · rcases List.mem_cons.mp hb with h | h
    · exact .inl (by rw [h]; exact List.mem_cons_self ..)
    · rcases mem3 (f0 := f0) h with h | h
      · exact .inl (List.mem_cons_of_mem _ h)
      · exact .inr (fr.2 _ h).2
  · rcases List.mem_cons.mp hb with h | h
    · cases h
    · rcases mem3 (f0 := f0) h with h | h
      · exact .inl h
      · have := (fr.2 _ h).1; cases this
/-- the place that a path tells, later on -/
theorem Node.pth (N : Node K Z G H σ ρ i π t t0 v a g) (s : StOk K Z G H σ ρ) (e : look ρ i = some t) (ea : T.at π t = some t0) (x : Ext c G H G' H') {fp : Fps} {w : V} (p : Pth K G' H' σ ρ fp i π w) : w = .ref a := by
  obtain ⟨t', t0', v0, g', e1, e2, e3, e4, r, m⟩ := p
  rw [e1] at e; cases e
  rw [e2] at ea; cases ea
  rw [N.slot] at e3; cases e3
  obtain ⟨fp0, r0, _⟩ := s.rep
  obtain ⟨v1, f, e5, rt, _⟩ := r0.look e1
  rw [N.slot] at e5; cases e5
  rw [reach_eq π rt (fun q hq o e n => (x.stay e n).1) e2, N.at'] at e4
  cases e4; rfl
theorem putT_none {κ : Type} [DecidableEq κ] {α : Type} {k : κ} {x : α} {kvs : List (κ × α)} (h : idxK k kvs = none) : putT k x kvs = kvs ++ [(k, x)] := by unfold putT; rw [h]
theorem putT_some {κ : Type} [DecidableEq κ] {α : Type} {k : κ} {x : α} {kvs : List (κ × α)} {n : Nat} (h : idxK k kvs = some n) : putT k x kvs = setK k x kvs := by unfold putT; rw [h]
def putAt : T → T → T → Option T
  | .dk true kvs, .fr d, x => (keyD d).map fun k => .dk true (putT k x kvs)
  | .dt true kvs, .fr (.tup ds), x => (keysD ds).map fun k => .dt true (putT k x kvs)
  | .lst true ts, .fr (.int i), x => (ixN ts.length i).map fun n => .lst true (ts.set n x)
  | _, _, _ => none
/-- there is room for one more -/
def roomy : T → Prop
  | .dk _ kvs => kvs.length < sizeLine
  | .dt _ kvs => kvs.length < sizeLine
  | _ => True
def rSetX : V → V → V → Hp → (Hp → Prop) → Prop := fun o i v H Q => rSetL o i v H Q ∨ rSetD o i v H Q
theorem set_X {X : Cx} (hu : X.A.units + 1 < cLine) : PSet X rSetX := fun pins s σ H o i v ov iv u Q I ro ri rv h => h.elim (set_list pins s σ H o i v ov iv u Q I ro ri rv) (set_dict hu pins s σ H o i v ov iv u Q I ro ri rv)
theorem Node.putAt (N : Node K Z G H σ ρ i π t t0 v a g) (x : Ext c G H G3 H3) {y ky : V} {xv tk t0' : T} {f' fk : Fps} (ry : RepT K G3 H3 y xv f') (fr : Fresh H f') (rk : RepT K G3 H3 ky tk fk) (lk : LenOk K H3) (e : TL.putAt t0 tk xv = some t0') (rm : roomy t0) :
    ∃ o', (∀ Q : Hp → Prop, Q (upd H3 a o') → rSetX (.ref a) ky y H3 Q) ∧ StOk K Z G3 (upd H3 a o') σ (ρ.set i (some (T.upd π t t0'))) := by
  have ng := N.ng
  have r0 := N.rep.ext x
  have ng3 : G3.obj a = none := by
    obtain ⟨o, h, _⟩ := N.pl
    exact (x.stay h ng).2
  unfold TL.putAt at e
  split at e
  · next _ kvs d =>
    cases hk : keyD d with
    | none => rw [hk] at e; cases e
    | some k =>
      rw [hk] at e; cases e
      cases r0 with
      | dk ha _ rt =>
        rename_i vs _
        have hlen : vs.length = kvs.length := by rw [rt.length, List.length_map]
        rw [keyD_ok rk.d.1 hk]
        have hz : ((kvs.map (toK ·.1)).zip vs).length < sizeLine := by
          rw [List.length_zip, List.length_map, hlen, Nat.min_self]; exact rm
        refine ⟨_, fun Q q => .inr ⟨a, _, rfl, .inl ⟨_, toK k, ha, rfl, hz, rfl⟩, q⟩, ?_⟩
        cases hi : idxK k kvs with
        | none =>
          rw [putK_out toK toK_inj y xv kvs vs k hlen hi]
          refine (N.chg (f1 := g) (f0 := []) (f2 := []) (f' := f') x fr (by simp) ?_).1
          have sub : ∀ q ∈ g ++ (f' ++ []), q ∈ g ∨ q ∈ f' := fun q hq => by simpa using hq
          have r2 := N.up fr sub (by simpa using RepTs.snoc ry rt) (.dK (((kvs ++ [(k, xv)]).map (toK ·.1)).zip (vs ++ [y])))
          show RepT K G3 _ _ (T.dk true (putT k xv kvs)) _
          rw [putT_none hi]
          exact .dk upd_same ng3 (by simpa using r2)
        | some n =>
          obtain ⟨h1, h2, h3⟩ := idxK_set k kvs n xv hi
          have nd : (kvs.map (toK ·.1)).Nodup := by
            have := lk.dk _ _ ha
            rwa [List.map_fst_zip (by rw [List.length_map, hlen]; exact Nat.le_refl _)] at this
          rw [putK_in toK y kvs vs k n hlen hi nd]
          obtain ⟨f1, f0, f2, eg, rs⟩ := RepTs.setAt (n := n) ry rt (by rw [List.length_map]; exact h1)
          refine (N.chg x fr eg ?_).1
          have sub : ∀ q ∈ f1 ++ (f' ++ f2), q ∈ g ∨ q ∈ f' := fun q hq => by rw [eg]; exact mem3 hq
          have r2 := N.up fr sub rs (.dK ((kvs.map (toK ·.1)).zip (vs.set n y)))
          show RepT K G3 _ _ (T.dk true (putT k xv kvs)) _
          rw [putT_some hi]
          refine .dk ?_ ng3 (by rw [h2]; exact r2)
          rw [map_fst_of h3]; exact upd_same
  · next _ kvs ds =>
    cases hk : keysD ds with
    | none => rw [hk] at e; cases e
    | some k =>
      rw [hk] at e; cases e
      obtain ⟨b, vs2, rfl, hb, _, rb⟩ := rk.d.1.tup' x.hd
      have ek := keysD_ok rb hk
      subst ek
      cases r0 with
      | dt ha _ rt =>
        rename_i vs _
        have hlen : vs.length = kvs.length := by rw [rt.length, List.length_map]
        have hz : ((kvs.map (·.1.map toK)).zip vs).length < sizeLine := by
          rw [List.length_zip, List.length_map, hlen, Nat.min_self]; exact rm
        refine ⟨_, fun Q q => .inr ⟨a, _, rfl, .inr ⟨_, k.map toK, b, ha, rfl, hb, hz, rfl⟩, q⟩, ?_⟩
        cases hi : idxK k kvs with
        | none =>
          rw [putK_out (·.map toK) toKs_inj y xv kvs vs k hlen hi]
          refine (N.chg (f1 := g) (f0 := []) (f2 := []) (f' := f') x fr (by simp) ?_).1
          have sub : ∀ q ∈ g ++ (f' ++ []), q ∈ g ∨ q ∈ f' := fun q hq => by simpa using hq
          have r2 := N.up fr sub (by simpa using RepTs.snoc ry rt) (.dT (((kvs ++ [(k, xv)]).map (·.1.map toK)).zip (vs ++ [y])))
          show RepT K G3 _ _ (T.dt true (putT k xv kvs)) _
          rw [putT_none hi]
          exact .dt upd_same ng3 (by simpa using r2)
        | some n =>
          obtain ⟨h1, h2, h3⟩ := idxK_set k kvs n xv hi
          have nd : (kvs.map (·.1.map toK)).Nodup := by
            have := lk.dt _ _ ha
            rwa [List.map_fst_zip (by rw [List.length_map, hlen]; exact Nat.le_refl _)] at this
          rw [putK_in (·.map toK) y kvs vs k n hlen hi nd]
          obtain ⟨f1, f0, f2, eg, rs⟩ := RepTs.setAt (n := n) ry rt (by rw [List.length_map]; exact h1)
          refine (N.chg x fr eg ?_).1
          have sub : ∀ q ∈ f1 ++ (f' ++ f2), q ∈ g ∨ q ∈ f' := fun q hq => by rw [eg]; exact mem3 hq
          have r2 := N.up fr sub rs (.dT ((kvs.map (·.1.map toK)).zip (vs.set n y)))
          show RepT K G3 _ _ (T.dt true (putT k xv kvs)) _
          rw [putT_some hi]
          refine .dt ?_ ng3 (by rw [h2]; exact r2)
          rw [map_fst_of (g := fun k => List.map toK k) h3]; exact upd_same
  · next _ ts j =>
    cases hk : ixN ts.length j with
    | none => rw [hk] at e; cases e
    | some n =>
      rw [hk] at e; cases e
      cases r0 with
      | lst ha _ rt =>
        rename_i vs _
        rw [rk.d.1.int']
        refine ⟨.lst (vs.set n y), fun Q q => .inl ⟨a, vs, j, n, rfl, rfl, ha, by rw [rt.length]; exact hk, q⟩, ?_⟩
        obtain ⟨f1, f0, f2, eg, rs⟩ := RepTs.setAt (n := n) ry rt (ixN_seq hk).2.1
        refine (N.chg x fr eg ?_).1
        have sub : ∀ q ∈ f1 ++ (f' ++ f2), q ∈ g ∨ q ∈ f' := fun q hq => by rw [eg]; exact mem3 hq
        exact .lst upd_same ng3 (N.up fr sub rs _)
  · cases e
theorem Node.app2 (N : Node K Z G H σ ρ i π t (.lst true ts) v a g) (x : Ext c G H G3 H3) {y : V} {xv : T} {f' : Fps} (ry : RepT K G3 H3 y xv f') (fr : Fresh H f') :
    ∃ vs, vs.length = ts.length ∧ H3 a = some (.lst vs) ∧ StOk K Z G3 (upd H3 a (.lst (vs ++ [y]))) σ (ρ.set i (some (T.upd π t (.lst true (ts ++ [xv]))))) ∧ reach (upd H3 a (.lst (vs ++ [y]))) π v (T.upd π t (.lst true (ts ++ [xv]))) = some (.ref a) := by
  have ng3 : G3.obj a = none := by
    obtain ⟨o, h, _⟩ := N.pl
    exact (x.stay h N.ng).2
  have r0 := N.rep.ext x
  cases r0 with
  | lst ha _ rt =>
    rename_i vs _
    refine ⟨vs, rt.length, ha, ?_⟩
    refine N.chg (f1 := g) (f0 := []) (f2 := []) (f' := f') x fr (by simp) ?_
    have sub : ∀ q ∈ g ++ (f' ++ []), q ∈ g ∨ q ∈ f' := fun q hq => by simpa using hq
    exact .lst upd_same ng3 (N.up fr sub (by simpa using RepTs.snoc ry rt) _)
theorem Node.app (N : Node K Z G H σ ρ i π t (.lst true ts) v a g) (x : Ext c G H G3 H3) {y : V} {xv : T} {f' : Fps} (ry : RepT K G3 H3 y xv f') (fr : Fresh H f') :
    ∃ vs, vs.length = ts.length ∧ H3 a = some (.lst vs) ∧ StOk K Z G3 (upd H3 a (.lst (vs ++ [y]))) σ (ρ.set i (some (T.upd π t (.lst true (ts ++ [xv]))))) := by
  obtain ⟨vs, h1, h2, h3, _⟩ := N.app2 x ry fr
  exact ⟨vs, h1, h2, h3⟩
theorem Node.fld (N : Node K Z G H σ ρ i π t (.ins true C fs) v a g) (x : Ext c G H G3 H3) {y : V} {xv : T} {f' : Fps} (ry : RepT K G3 H3 y xv f') (fr : Fresh H f') (f : Str) :
    ∃ dx vs, vs.length = fs.length ∧ H3 a = some (.ins C dx ((fs.map (·.1)).zip vs)) ∧ StOk K Z G3 (upd H3 a (.ins C dx (putF f y ((fs.map (·.1)).zip vs)))) σ (ρ.set i (some (T.upd π t (.ins true C (putT f xv fs))))) := by
  have ng3 : G3.obj a = none := by
    obtain ⟨o, h, _⟩ := N.pl
    exact (x.stay h N.ng).2
  have inner := N.inner
  have r0 := N.rep.ext x
  generalize hg : (true, a) :: g = gg at r0
  cases r0 with
  | ins ha _ hx nd rt =>
    rename_i dx vs h0 _
    cases hg
    have hlen : vs.length = fs.length := by rw [rt.length, List.length_map]
    refine ⟨dx, vs, hlen, ha, ?_⟩
    have hda : dx ≠ a := inner (true, dx) (List.mem_cons_self ..)
    cases hi : idxK f fs with
    | none =>
      rw [putF_new y fs vs f hlen hi]
      refine (N.chg (f1 := (true, dx) :: h0) (f0 := []) (f2 := []) (f' := f') x fr (by simp) ?_).1
      have sub : ∀ q ∈ h0 ++ (f' ++ []), q ∈ (true, dx) :: h0 ∨ q ∈ f' := fun q hq => by
        rcases List.mem_append.mp hq with z | z
        · exact .inl (List.mem_cons_of_mem _ z)
        · exact .inr (by simpa using z)
      have r2 := N.up fr sub (by simpa using RepTs.snoc ry rt) (.ins C dx (((fs.map (·.1)) ++ [f]).zip (vs ++ [y])))
      rw [putT_none hi]
      refine .ins (by rw [List.map_append]; exact upd_same) ng3 (by rw [upd_ne hda]; exact hx) nd (by simpa using r2)
    | some n =>
      obtain ⟨h1, h2, h3⟩ := idxK_set f fs n xv hi
      rw [putF_in y fs vs f n hlen hi]
      obtain ⟨f1, f0, f2, eg, rs⟩ := RepTs.setAt (n := n) ry rt (by rw [List.length_map]; exact h1)
      refine (N.chg (f1 := (true, dx) :: f1) x fr (by rw [eg]; rfl) ?_).1
      have sub : ∀ q ∈ f1 ++ (f' ++ f2), q ∈ (true, dx) :: h0 ∨ q ∈ f' := fun q hq => by
        rw [eg]
        exact (mem3 hq).imp (List.mem_cons_of_mem _) id
      have r2 := N.up fr sub rs (.ins C dx ((fs.map (·.1)).zip (vs.set n y)))
      rw [putT_some hi]
      exact .ins (by rw [h3]; exact upd_same) ng3 (by rw [upd_ne hda]; exact hx) nd (by rw [h2]; exact r2)
end
end TL
set_option Elab.async false
set_option linter.all false
set_option maxRecDepth 100000
set_option maxHeartbeats 1000000
/-! TL19: statements that change things in place. -/
namespace TL
open PySem PySem.Spec PyProof.Rows L2
section
variable {X : Cx} {e o k : Expr} {es : List Expr} {pos pos' apos : Pos} {np : Np} {c ca cb cc : Nat} {w wk wo : TW} {wp : TWP}
/-- the readings of a place, and of what is there now, in a state -/
theorem StOk.pl {K : PySem.W.Frag} {Z : Ctx} {G G1 : Gh} {H H1 : Hp} {σ : L2.St} {ρ : Rho} {P : Nat → List PStep → Prop} {Q : VK} (s : StOk K Z G H σ ρ) (x : Ext c G H G1 H1) (hn : G1.n + ca ≤ LIM) (hw : wp ρ P)
    (k : ∀ v i π G' H', Ext (c + ca) G H G' H' → Ext ca G1 H1 G' H' → (∃ fp, RepS K G' H' σ ρ fp ∧ Pth K G' H' σ ρ fp i π v) → LenOk K H' → P i π → Q v H') : liftP K ca wp σ H1 Q := by
  obtain ⟨fp, r, n, m, l⟩ := (s.ext x).rep
  exact ⟨G1, ρ, fp, P, (s.ext x).hd, r, hn, hw, fun v i π G' H' x' p lk q => k v i π G' H' (x.trans x') x' ⟨fp, r.ext x', p⟩ lk q⟩
theorem StOk.mkn {K : PySem.W.Frag} {Z : Ctx} {G G1 : Gh} {H H1 : Hp} {σ : L2.St} {ρ : Rho} {P : T → Prop} {Q : VK} (s : StOk K Z G H σ ρ) (x : Ext c G H G1 H1) (hn : G1.n + ca ≤ LIM) (hw : wo ρ P)
    (k : ∀ v t f G' H', Ext (c + ca) G H G' H' → Ext ca G1 H1 G' H' → RepT K G' H' v t f → Fresh H f → LenOk K H' → P t → Q v H') : liftMk K ca wo σ H1 Q := by
  obtain ⟨fp, r, n, m, l⟩ := (s.ext x).rep
  exact ⟨G1, ρ, fp, P, (s.ext x).hd, r, hn, hw, fun v t f G' H' x' r fr lk q => k v t f G' H' (x.trans x') x' r ⟨fr.1, fun q hq => ⟨(fr.2 q hq).1, x.back_none (fr.2 q hq).2⟩⟩ lk q⟩
theorem StOk.evx {K : PySem.W.Frag} {Z : Ctx} {G G1 : Gh} {H H1 : Hp} {σ : L2.St} {ρ : Rho} {P : T → Prop} {Q : VK} (s : StOk K Z G H σ ρ) (x : Ext c G H G1 H1) (hn : G1.n + ca ≤ LIM) (hw : wo ρ P)
    (k : ∀ v t f G' H', Ext (c + ca) G H G' H' → Ext ca G1 H1 G' H' → RepT K G' H' v t f → LenOk K H' → P t → Q v H') : liftE K ca wo σ H1 Q := by
  obtain ⟨fp, r, n, m, l⟩ := (s.ext x).rep
  exact ⟨G1, ρ, fp, P, (s.ext x).hd, r, hn, hw, fun v t f G' H' x' r _ lk q => k v t f G' H' (x.trans x') x' r lk q⟩
def chgAt (ρ : Rho) (i : Nat) (π : List PStep) (t' : T) : Rho := match look ρ i with
  | some t => ρ.set i (some (T.upd π t t'))
  | none => ρ
theorem chgAt_ok {ρ : Rho} {i : Nat} {π : List PStep} {t t' : T} (h : look ρ i = some t) : chgAt ρ i π t' = ρ.set i (some (T.upd π t t')) := by
  unfold chgAt; rw [h]
/-- place.append(new) -/
def sAppP (wp : TWP) (wo : TW) : TSW := fun E ρ => wp ρ fun i π => match tAt ρ i π with
  | some (.lst true ts) => wo ρ fun x => ts.length < sizeLine ∧ E.nx (chgAt ρ i π (.lst true (ts ++ [x])))
  | _ => False
theorem ws_appP (ho : WP X ca o wp) (he : WMk X cb e wo)
    (hs : swapsWith (.Call (.Attribute o "append" apos) [e] [] pos') none pos.line X.env = pure false := by rfl)
    (hbase : attributeBase o "append" X.env (eval o X.env) = eval o X.env := by rfl)
    (hfew : ((backTo pos' (starEach [e] X.env)).all (fun x => !x.1) && (backToKw pos' (keywordEach [] X.env)).all (fun x => x.1.isSome) && decide ([e].length + ([] : List Keyword).length + (if ([] : List Keyword).isEmpty then 0 else 1) < 30)) = true := by rfl)
    (hline : (apos.endLine == pos'.line) = true := by rfl) (hse : starEach [e] X.env = (false, eval e X.env) :: starEach [] X.env := by rfl) (hpl : (backTo pos' (starEach [] X.env)).any (·.1) = false := by rfl) :
    WS X np (ca + cb) (.Expr (.Call (.Attribute o "append" apos) [e] [] pos') pos) (sAppP wp wo) :=
  PS.imp (ps_expr (pe_bm PySem.F.plainAttrs_list PySem.F.slot_list_append PySem.F.type_list_append (show MtR X "list.append" rAppend from mt_append) ho (pa_cons he pa_nil hse) hbase hfew hline hse hpl) hs) fun D σ H ⟨Z, G, ρ, E, hZ, s, hn, hw, g⟩ => by
  refine s.pl (Ext.refl s.hd) (by omega) hw fun v i π G1 H1 x1 y1 ⟨fp1, rr, p⟩ lk1 q1 => ?_
  have h1 := y1.hi
  split at q1
  · next ts ht =>
    obtain ⟨t, e1, e2⟩ := tAt_ok ht
    obtain ⟨v0, a, g0, N⟩ := s.node e1 e2 rfl
    have hv := N.pth s e1 e2 x1 p
    obtain ⟨gg, r0, _⟩ := p.rep e1 e2
    subst hv
    cases r0 with
    | lst ha _ rt =>
      refine ⟨.inl ⟨rfl, _, SqL.of ha⟩, ?_⟩
      refine s.mkn (wo := wo) x1 (by omega) q1 fun y xv f G2 H2 x2 y2 ry fr lk2 q2 => ?_
      have h2 := y2.hi
      obtain ⟨vs, hl, h3, s3⟩ := N.app x2 ry fr
      refine ⟨a, vs, y, rfl, rfl, h3, by rw [hl]; exact q2.1, ?_⟩
      have q3 := q2.2
      rw [chgAt_ok e1] at q3
      exact g.nx _ _ G2 _ s3 (by omega) q3
  · exact q1.elim
/-- place[k] = new -/
def sPutP (wo : TW) (wp : TWP) (wk : TW) : TSW := fun E ρ => wo ρ fun x => wp ρ fun i π => wk ρ fun tk => optP (tAt ρ i π) fun t0 => t0.mine = true ∧ optP (putAt t0 tk x) fun t0' => roomy t0 ∧ E.nx (chgAt ρ i π t0')
theorem ws_putP (hu : X.A.units + 1 < cLine) (he : WMk X ca e wo) (ho : WP X cb o wp) (hk : WE X cc k wk)
    (hs : swapsWithSole [.Subscript o k pos'] e pos.line X.env = pure false := by rfl) (hw : swappedStores [.Subscript o k pos'] e X.env = pure none := by rfl) (h1 : (assignEach [.Subscript o k pos'] X.env).map (·.2) = [assign (.Subscript o k pos') X.env] := by rfl)
    (ha : ∀ v, assign (.Subscript o k pos') X.env v = (do
      let ov ← holding [v] (eval o X.env)
      let iv ← holding [v, ov] (eval k X.env)
      standAt pos'
      holding [v, ov, iv] (setItem ov iv v)
      release [v, ov, iv] []) := by intro _; rfl) :
    WS X np (ca + (cb + cc)) (.Assign [.Subscript o k pos'] e pos) (sPutP wo wp wk) :=
  PS.imp (ps_asg he (pg_sub ho hk (set_X hu) ha) hs hw h1) fun D σ H ⟨Z, G, ρ, E, hZ, s, hn, hw, g⟩ => by
  refine s.mkn (wo := wo) (Ext.refl s.hd) (by omega) hw fun y xv f G1 H1 x1 y1 ry fr lk1 q1 => ?_
  have h1 := y1.hi
  refine s.pl x1 (by omega) q1 fun v i π G2 H2 x2 y2 ⟨fp2, rr, p⟩ lk2 q2 => ?_
  have h2 := y2.hi
  refine s.evx x2 (by omega) q2 fun ky tk fk G3 H3 x3 y3 rk lk3 q3 => ?_
  have h3 := y3.hi
  obtain ⟨t0, ht, mt, q4⟩ := optP_ok q3
  obtain ⟨t0', ep, rm, q5⟩ := optP_ok q4
  obtain ⟨t, e1, e2⟩ := tAt_ok ht
  obtain ⟨v0, a, g0, N⟩ := s.node e1 e2 mt
  have hv := N.pth s e1 e2 x2 p
  subst hv
  obtain ⟨o', hset, s3⟩ := N.putAt x3 ((ry.ext y2).ext y3) fr rk lk3 ep rm
  rw [chgAt_ok e1] at q5
  exact hset _ (g.nx _ _ G3 _ s3 (by omega) q5)
/-- place.f = new -/
def sFldP (wo : TW) (wp : TWP) (C : Addr) (f : Str) : TSW := fun E ρ => wo ρ fun x => wp ρ fun i π => match tAt ρ i π with
  | some (.ins true C' fs) => C' = C ∧ fs.length < 1000 ∧ E.nx (chgAt ρ i π (.ins true C' (putT f x fs)))
  | _ => False
theorem ws_fldP {C : Addr} {f : Str} (he : WMk X ca e wo) (ho : WP X cb o wp) (cl : Cls X.K C) (na : NoAttr X.K C f) (hs : swapsWith e (some (.Attribute o f pos')) pos.line X.env = pure false := by rfl) :
    WS X np (ca + cb) (.Assign [.Attribute o f pos'] e pos) (sFldP wo wp C f) :=
  PS.imp (ps_fld ho he hs) fun D σ H ⟨Z, G, ρ, E, hZ, s, hn, hw, g⟩ => by
  refine s.mkn (wo := wo) (Ext.refl s.hd) (by omega) hw fun y xv f' G1 H1 x1 y1 ry fr lk1 q1 => ?_
  have h1 := y1.hi
  refine s.pl x1 (by omega) q1 fun v i π G2 H2 x2 y2 ⟨fp2, rr, p⟩ lk2 q2 => ?_
  have h2 := y2.hi
  split at q2
  · next C' fs ht =>
    obtain ⟨rfl, hl, q3⟩ := q2
    obtain ⟨t, e1, e2⟩ := tAt_ok ht
    obtain ⟨v0, a, g0, N⟩ := s.node e1 e2 rfl
    have hv := N.pth s e1 e2 x2 p
    subst hv
    obtain ⟨dx, vs, hlen, h3, s3⟩ := N.fld x2 (ry.ext y2) fr f
    rw [chgAt_ok e1] at q3
    refine ⟨a, C', dx, _, rfl, h3, cl, na, ?_, g.nx _ _ G2 _ s3 (by omega) q3⟩
    rw [List.length_zip, List.length_map, hlen, Nat.min_self]; exact hl
  · exact q2.elim
def sdRho (ρ : Rho) (i : Nat) (π : List PStep) (kvs : List (KY × T)) (k : KY) : Rho := match getK kvs k with
  | some _ => ρ
  | none => chgAt ρ i π (.dk true (kvs ++ [(k, .lst true [])]))
theorem idxK_none {κ : Type} [DecidableEq κ] {α : Type} (k : κ) : ∀ (kvs : List (κ × α)), getK kvs k = none → idxK k kvs = none
  | [], _ => rfl
  | (k', y) :: r, h => by
    by_cases e : k' = k
    · subst e; simp [getK] at h
    · have h2 : getK r k = none := by simpa [getK, List.find?, e] using h
      simp [idxK, e, idxK_none k r h2]
theorem idxK_snoc {κ : Type} [DecidableEq κ] {α : Type} (k : κ) (x : α) : ∀ (kvs : List (κ × α)), idxK k kvs = none → idxK k (kvs ++ [(k, x)]) = some kvs.length ∧ getK (kvs ++ [(k, x)]) k = some x
  | [], _ => by simp [idxK, getK]
  | (k', y) :: r, h => by
    by_cases e : k' = k
    · subst e; simp [idxK] at h
    · have h2 : idxK k r = none := by
        simp only [idxK, if_neg e] at h
        cases z : idxK k r with
        | none => rfl
        | some m => rw [z] at h; cases h
      obtain ⟨h3, h4⟩ := idxK_snoc k x r h2
      refine ⟨by simp [idxK, e, h3], ?_⟩
      simpa [getK, List.find?, e] using h4
theorem at_upd : ∀ (π : List PStep) {t t0 : T} (t' : T), T.at π t = some t0 → T.at π (T.upd π t t') = some t'
  | [], _, _, _, _ => rfl
  | s :: π, t, t0, t', e => by
    unfold T.at at e
    cases hc : t.get s with
    | none => rw [hc] at e; cases e
    | some c =>
      rw [hc] at e
      have eu : T.upd (s :: π) t t' = t.put s (T.upd π c t') := by
        show (match t.get s with
          | some c => t.put s (T.upd π c t')
          | none => t) = _
        rw [hc]
      rw [eu]
      show (match (t.put s (T.upd π c t')).get s with
        | some c => T.at π c
        | none => none) = some t'
      rw [put_get s t c _ hc]
      exact at_upd π t' e
/-- w stands at π in slot i -/
def Pl (K : PySem.W.Frag) (G : Gh) (H : Hp) (σ : L2.St) (ρ : Rho) (i : Nat) (π : List PStep) (w : V) : Prop := ∃ fp, RepS K G H σ ρ fp ∧ Pth K G H σ ρ fp i π w
theorem Pl.of {K : PySem.W.Frag} {Z : Ctx} {G : Gh} {H : Hp} {σ : L2.St} {ρ : Rho} {i : Nat} {π : List PStep} {t t0 : T} {v0 w : V} (s : StOk K Z G H σ ρ) (e : look ρ i = some t) (ea : T.at π t = some t0) (hs : σ[i]? = some (some v0)) (hr : reach H π v0 t = some w) : Pl K G H σ ρ i π w := by
  obtain ⟨fp, r, _⟩ := s.rep
  obtain ⟨v1, f, e1, rt, m⟩ := r.look e
  rw [hs] at e1; cases e1
  obtain ⟨w2, f1, f0, f2, rfl, h1, r0, _⟩ := rt.path π ea
  rw [hr] at h1; cases h1
  exact ⟨fp, r, t, t0, v0, f0, e, ea, hs, hr, r0, fun q hq => m q (List.mem_append_right _ (List.mem_append_left _ hq))⟩
theorem tAt_chg {ρ : Rho} {i : Nat} {π : List PStep} {t0 t' : T} (h : tAt ρ i π = some t0) (hi : i < ρ.length) : tAt (chgAt ρ i π t') i π = some t' := by
  obtain ⟨t, e1, e2⟩ := tAt_ok h
  rw [chgAt_ok e1]
  unfold tAt
  have : look (ρ.set i (some (T.upd π t t'))) i = some (T.upd π t t') := by
    clear h e1
    induction ρ generalizing i with
    | nil => simp at hi
    | cons o ρ ih =>
      cases i with
      | zero => rfl
      | succ i => exact ih (by simpa using hi)
  rw [this]
  exact at_upd π t' e2
theorem look_lt : ∀ {ρ : Rho} {i : Nat} {t : T}, look ρ i = some t → i < ρ.length
  | [], _, _, h => by cases h
  | _ :: _, 0, _, _ => by simp
  | _ :: ρ, i + 1, t, h => by simpa using look_lt (ρ := ρ) h
theorem look_set_self {ρ : Rho} {i : Nat} {t : T} (h : i < ρ.length) : look (ρ.set i (some t)) i = some t := by
  induction ρ generalizing i with
  | nil => simp at h
  | cons o ρ ih =>
    cases i with
    | zero => rfl
    | succ i => exact ih (by simpa using h)
/-- d.setdefault(k, []) : what is handed on stands in the dict -/
theorem sd_core {K : PySem.W.Frag} {Z : Ctx} {G G3 : Gh} {H H3 : Hp} {σ : L2.St} {ρ : Rho} {i : Nat} {π : List PStep} {kvs : List (KY × T)} {p : Addr} {k : KY} (s : StOk K Z G H σ ρ) (ht : tAt ρ i π = some (.dk true kvs)) (x : Ext c G H G3 H3) (hp : H p = none) (hp3 : H3 p = some (.lst [])) (hg3 : G3.obj p = none)
    (hl : kvs.length < sizeLine) :
    ∃ a kvs', (∀ fp w, ∀ {c' : Nat} {G' H'}, Ext c' G H G' H' → Pth K G' H' σ ρ fp i π w → w = .ref a) ∧ H3 a = some (.dK kvs') ∧ kvs'.length < sizeLine ∧
      (∀ v, valV kvs' (toK k) = some v → sdRho ρ i π kvs k = ρ ∧ StOk K Z G3 H3 σ ρ ∧ Pl K G3 H3 σ ρ i (π ++ [.key k]) v) ∧
      (valV kvs' (toK k) = none → StOk K Z G3 (upd H3 a (.dK (putK kvs' (toK k) (.ref p)))) σ (sdRho ρ i π kvs k) ∧ Pl K G3 (upd H3 a (.dK (putK kvs' (toK k) (.ref p)))) σ (sdRho ρ i π kvs k) i (π ++ [.key k]) (.ref p)) := by
  obtain ⟨t, e1, e2⟩ := tAt_ok ht
  obtain ⟨v0, a, g, N⟩ := s.node e1 e2 rfl
  have s3 := s.ext x
  obtain ⟨fp0, r0, _⟩ := s.rep
  have r3 := N.rep.ext x
  have ng3 : G3.obj a = none := by
    obtain ⟨o, h, _⟩ := N.pl
    exact (x.stay h N.ng).2
  obtain ⟨v1, f1, e5, rt1, m1⟩ := r0.look e1
  rw [N.slot] at e5; cases e5
  cases r3 with
  | dk ha _ rt =>
    rename_i vs _
    have hlen : vs.length = kvs.length := by rw [rt.length, List.length_map]
    refine ⟨a, _, fun fp w c' G' H' x' pp => N.pth s e1 e2 x' pp, ha, by rw [List.length_zip, List.length_map, hlen, Nat.min_self]; exact hl, fun v hv => ?_, fun hv => ?_⟩
    · cases hk : getK kvs k with
      | none => rw [val_no toK toK_inj kvs vs k (idxK_none k kvs hk)] at hv; cases hv
      | some tk =>
        refine ⟨by unfold sdRho; rw [hk], s3, ?_⟩
        have hr : reach H3 π v0 t = some (.ref a) := by rw [reach_eq π rt1 (fun q hq o e n => (x.stay e n).1) e2]; exact N.at'
        obtain ⟨fp, rr, pp⟩ := Pl.of s3 e1 e2 N.slot hr
        obtain ⟨a2, n, w, ea, h1, h2, p2⟩ := pp.step e1 e2 (s := .key k) hk
        cases ea
        simp only [kidAt, ha, hkids] at h2
        rw [zip_vals _ _ (by rw [hlen, List.length_map])] at h2
        have hv2 := val_idx toK toK_inj kvs vs k n w h1 h2
        rw [hv] at hv2; cases hv2
        exact ⟨fp, rr, p2⟩
    · cases hk : getK kvs k with
      | some tk =>
        obtain ⟨n, j1, j2, _, _⟩ := idxK_get k kvs tk hk
        obtain ⟨w, gg, w1, _, _⟩ := rt.get j2
        rw [val_idx toK toK_inj kvs vs k n w j1 w1] at hv; cases hv
      | none =>
        have hi := idxK_none k kvs hk
        obtain ⟨hi2, hk2⟩ := idxK_snoc k (T.lst true []) kvs hi
        have hsd : sdRho ρ i π kvs k = ρ.set i (some (T.upd π t (.dk true (kvs ++ [(k, .lst true [])])))) := by unfold sdRho; rw [hk]; exact chgAt_ok e1
        have ry : RepT K G3 H3 (.ref p) (.lst true []) [(true, p)] := .lst hp3 hg3 .nil
        have fr : Fresh H [(true, p)] := fresh_nil.cons hp fun _ z => nomatch z
        rw [putK_out toK toK_inj (.ref p) (T.lst true []) kvs vs k hlen hi, hsd]
        have sub : ∀ q ∈ g ++ ([(true, p)] ++ []), q ∈ g ∨ q ∈ [(true, p)] := fun q hq => by simpa using hq
        have r2 := N.up fr sub (by simpa using RepTs.snoc ry rt) (.dK (((kvs ++ [(k, T.lst true [])]).map (toK ·.1)).zip (vs ++ [.ref p])))
        obtain ⟨s4, hr4⟩ := N.chg (o' := .dK (((kvs ++ [(k, T.lst true [])]).map (toK ·.1)).zip (vs ++ [.ref p]))) (t0' := .dk true (kvs ++ [(k, .lst true [])])) (f1 := g) (f0 := []) (f2 := []) (f' := [(true, p)]) x fr (by simp) (.dk upd_same ng3 (by simpa using r2))
        refine ⟨s4, ?_⟩
        have l1 := look_set_self (t := T.upd π t (.dk true (kvs ++ [(k, .lst true [])]))) (look_lt e1)
        have a1 := at_upd π (.dk true (kvs ++ [(k, .lst true [])])) e2
        obtain ⟨fp, rr, pp⟩ := Pl.of s4 l1 a1 N.slot hr4
        obtain ⟨a2, n, w, ea, h1, h2, p2⟩ := pp.step l1 a1 (s := .key k) hk2
        cases ea
        have hn : n = kvs.length := by
          have : some n = some kvs.length := by rw [← h1]; exact hi2
          cases this; rfl
        subst hn
        simp only [kidAt, upd_same, hkids] at h2
        rw [zip_vals _ _ (by simp [hlen]), List.getElem?_append_right (by rw [hlen]; exact Nat.le_refl _)] at h2
        simp [hlen] at h2
        subst h2
        exact ⟨fp, rr, p2⟩
/-- place.setdefault(k, []).append(new) -/
def sSdA (wp : TWP) (wk wo : TW) : TSW := fun E ρ => wp ρ fun i π => match tAt ρ i π with
  | some (.dk true kvs) => wk ρ (asD fun d => optP (keyD d) fun k => kvs.length < sizeLine ∧ match tAt (sdRho ρ i π kvs k) i (π ++ [.key k]) with
    | some (.lst true ts) => wo (sdRho ρ i π kvs k) fun x => ts.length < sizeLine ∧ E.nx (chgAt (sdRho ρ i π kvs k) i (π ++ [.key k]) (.lst true (ts ++ [x])))
    | _ => False)
  | _ => False
end
end TL
set_option Elab.async false
set_option linter.all false
set_option maxRecDepth 100000
set_option maxHeartbeats 1000000
/-! TL20: setdefault; a name for a part of a slot. -/
namespace TL
open PySem PySem.Spec PyProof.Rows L2
section
variable {X : Cx} {e o k : Expr} {es : List Expr} {pos pos' apos : Pos} {np : Np} {c ca cb cc : Nat} {w wk wo : TW} {wp : TWP}
/-- a list of our own at a place -/
theorem pl_lst {K : PySem.W.Frag} {Z : Ctx} {G : Gh} {H : Hp} {σ : L2.St} {ρ : Rho} {i : Nat} {π : List PStep} {u : V} {ts : List T} (s : StOk K Z G H σ ρ) (p : Pl K G H σ ρ i π u) (ht : tAt ρ i π = some (.lst true ts)) :
    ∃ a v0 t g, look ρ i = some t ∧ T.at π t = some (.lst true ts) ∧ Node K Z G H σ ρ i π t (.lst true ts) v0 a g ∧ u = .ref a ∧ ∃ vs, H a = some (.lst vs) ∧ RepTs K G H vs ts g := by
  obtain ⟨t, e1, e2⟩ := tAt_ok ht
  obtain ⟨v0, a, g, N⟩ := s.node e1 e2 rfl
  obtain ⟨fp, _, pp⟩ := p
  have hv := N.pth s e1 e2 (Ext.refl s.hd) pp
  subst hv
  have r0 := N.rep
  generalize hg : (true, a) :: g = gg at r0
  cases r0 with
  | lst ha _ rt =>
    cases hg
    exact ⟨a, v0, t, g, e1, e2, N, rfl, _, ha, rt⟩
/-- what place.setdefault(k, []) wishes -/
def sSd (wp : TWP) (wk : TW) (W : Nat → List PStep → List T → Rho → Prop) : Rho → Prop := fun ρ => wp ρ fun i π => match tAt ρ i π with
  | some (.dk true kvs) => wk ρ (asD fun d => optP (keyD d) fun k => kvs.length < sizeLine ∧ match tAt (sdRho ρ i π kvs k) i (π ++ [.key k]) with
    | some (.lst true ts) => W i (π ++ [.key k]) ts (sdRho ρ i π kvs k)
    | _ => False)
  | _ => False
theorem sd_run {K : PySem.W.Frag} {Z : Ctx} {G : Gh} {H : Hp} {σ : L2.St} {ρ : Rho} {W : Nat → List PStep → List T → Rho → Prop} {Q : VK} (s : StOk K Z G H σ ρ) (hn : G.n + (ca + (cb + 0)) ≤ LIM) (hw : sSd wp wk W ρ)
    (kk : ∀ u i π ts ρ1 G1 H1, StOk K Z G1 H1 σ ρ1 → G1.n ≤ G.n + (ca + cb) → Pl K G1 H1 σ ρ1 i π u → tAt ρ1 i π = some (.lst true ts) → W i π ts ρ1 → Q u H1) :
    tDSetd (liftP K ca wp) (liftE K cb wk) (liftMk K 0 (mLst wNil)) σ H Q := by
  refine s.pl (Ext.refl s.hd) (by omega) hw fun v i π G1 H1 x1 y1 ⟨fp1, rr, p⟩ lk1 q1 => ?_
  have h1 := y1.hi
  split at q1
  · next kvs ht =>
    obtain ⟨t, e1, e2⟩ := tAt_ok ht
    obtain ⟨v0, a, g0, N⟩ := s.node e1 e2 rfl
    have hv := N.pth s e1 e2 x1 p
    subst hv
    have r1 := N.rep.ext x1
    cases r1 with
    | dk ha1 _ rt1 =>
      refine ⟨a, rfl, .inl ⟨_, .inl ha1⟩, ?_⟩
      refine s.evx x1 (by omega) q1 fun ky tk fk G2 H2 x2 y2 rk lk2 q2 => ?_
      have h2 := y2.hi
      obtain ⟨d, rfl, rd, q3⟩ := isD rk q2
      obtain ⟨k0, hk, hl, q4⟩ := optP_ok q3
      refine s.mkn (wo := mLst wNil) (P := fun z => z = .lst true []) x2 (by omega) ⟨Nat.zero_le _, rfl⟩ fun z tz fz G3 H3 x3 y3 rz frz lk3 ez => ?_
      have h3 := y3.hi
      subst ez
      cases rz with
      | lst hp3 hg3 rt3 =>
        rename_i pz vz fz2
        cases rt3
        have hpn : H pz = none := (frz.2 _ (List.mem_cons_self ..)).2
        obtain ⟨a', kvs', same, ha, hl', c1, c2⟩ := sd_core (k := k0) s ht x3 hpn hp3 hg3 hl
        have := same fp1 _ x1 p
        cases this
        refine ⟨kvs', k0 |> toK, ha, keyD_ok rd hk, hl', fun u hu => ?_, fun hu => ?_⟩
        · obtain ⟨es, s4, p4⟩ := c1 u hu
          split at q4
          · next ts hts =>
            rw [es] at hts q4
            exact kk u i _ ts ρ G3 H3 s4 (by omega) p4 hts q4
          · exact q4.elim
        · obtain ⟨s4, p4⟩ := c2 hu
          split at q4
          · next ts hts => exact kk _ i _ ts _ G3 _ s4 (by omega) p4 hts q4
          · exact q4.elim
  · exact q1.elim
/-- place.setdefault(k, []).append(new) -/
def sSdApp (wp : TWP) (wk wo : TW) : TSW := fun E => sSd wp wk fun i π ts ρ1 => wo ρ1 fun x => ts.length < sizeLine ∧ E.nx (chgAt ρ1 i π (.lst true (ts ++ [x])))
theorem ws_sdApp {ap0 cp lp : Pos} (ho : WP X ca o wp) (hk : WE X cb k wk) (he : WMk X cc e wo) (m : M2 X o "setdefault" ap0 k (.List [] lp) cp)
    (hs : swapsWith (.Call (.Attribute (.Call (.Attribute o "setdefault" ap0) [k, .List [] lp] [] cp) "append" apos) [e] [] pos') none pos.line X.env = pure false := by rfl)
    (hbase : attributeBase (.Call (.Attribute o "setdefault" ap0) [k, .List [] lp] [] cp) "append" X.env (eval (.Call (.Attribute o "setdefault" ap0) [k, .List [] lp] [] cp) X.env) = eval (.Call (.Attribute o "setdefault" ap0) [k, .List [] lp] [] cp) X.env := by rfl)
    (hfew : ((backTo pos' (starEach [e] X.env)).all (fun x => !x.1) && (backToKw pos' (keywordEach [] X.env)).all (fun x => x.1.isSome) && decide ([e].length + ([] : List Keyword).length + (if ([] : List Keyword).isEmpty then 0 else 1) < 30)) = true := by rfl)
    (hline : (apos.endLine == pos'.line) = true := by rfl) (hse : starEach [e] X.env = (false, eval e X.env) :: starEach [] X.env := by rfl) (hpl : (backTo pos' (starEach [] X.env)).any (·.1) = false := by rfl) :
    WS X np (ca + (cb + cc)) (.Expr (.Call (.Attribute (.Call (.Attribute o "setdefault" ap0) [k, .List [] lp] [] cp) "append" apos) [e] [] pos') pos) (sSdApp wp wk wo) :=
  PS.imp (ps_expr (pe_bm PySem.F.plainAttrs_list PySem.F.slot_list_append PySem.F.type_list_append (show MtR X "list.append" rAppend from mt_append) (pe_dsetd ho hk (wk_lst wks_nil) m) (pa_cons he pa_nil hse) hbase hfew hline hse hpl) hs) fun D σ H ⟨Z, G, ρ, E, hZ, s, hn, hw, g⟩ => by
  refine sd_run s (by omega) hw fun u i π ts ρ1 G1 H1 s1 n1 p1 ht q1 => ?_
  obtain ⟨a, v0, t, g0, e1, e2, N, rfl, vs, ha, rt⟩ := pl_lst s1 p1 ht
  refine ⟨.inl ⟨rfl, _, SqL.of ha⟩, ?_⟩
  refine s1.mkn (wo := wo) (Ext.refl s1.hd) (by omega) q1 fun y xv f G2 H2 x2 y2 ry fr lk2 q2 => ?_
  have h2 := y2.hi
  obtain ⟨vs, hl, h3, s3⟩ := N.app x2 ry fr
  refine ⟨a, vs, y, rfl, rfl, h3, by rw [hl]; exact q2.1, ?_⟩
  have q3 := q2.2
  rw [chgAt_ok e1] at q3
  exact g.nx _ _ G2 _ s3 (by omega) q3
theorem RepS.any {K : PySem.W.Frag} {G : Gh} {H : Hp} (o : Option V) : ∀ {σ : L2.St} {ρ : Rho} {fp : Fps} (i : Nat), RepS K G H σ ρ fp → ∃ fp', RepS K G H (σ.set i o) (ρ.set i none) fp' ∧ fp'.Sublist fp
  | _, _, _, i, .nil => ⟨[], .nil, List.Sublist.refl _⟩
  | _, _, _, 0, .no s => ⟨_, .no s, List.Sublist.refl _⟩
  | _, _, _, 0, .so r0 s => ⟨_, .no s, List.sublist_append_right _ _⟩
  | _, _, _, i + 1, .no s => by
    obtain ⟨fp', h1, h2⟩ := RepS.any o i s
    exact ⟨fp', .no h1, h2⟩
  | _, _, _, i + 1, .so r0 s => by
    obtain ⟨fp', h1, h2⟩ := RepS.any o i s
    exact ⟨_ ++ fp', .so r0 h1, List.Sublist.append (List.Sublist.refl _) h2⟩
theorem StOk.any {K : PySem.W.Frag} {Z : Ctx} {G : Gh} {H : Hp} {σ : L2.St} {ρ : Rho} (s : StOk K Z G H σ ρ) (i : Nat) (o : Option V) : StOk K Z G H (σ.set i o) (ρ.set i none) := by
  obtain ⟨fp, r, n, m, l⟩ := s.rep
  obtain ⟨fp', r', sb⟩ := r.any o i
  refine ⟨s.hd, ⟨fp', r', ?_, fun a ha => m a (sb.subset ha), fun a ha => l a (sb.subset ha)⟩, s.sub, s.new, s.keep, s.there, s.lo, fun j u w e1 e2 e3 => ?_⟩
  · unfold mines at n ⊢
    exact ((sb.filter _).map _).nodup n
  · by_cases h : i = j
    · subst h
      rcases look_set_eq ρ i none with q | q <;> (rw [q] at e2; cases e2)
    · rw [look_set_ne ρ i j _ h] at e2
      rw [List.getElem?_set_ne h]
      exact s.pin j u w e1 e2 e3
/-- x = place.setdefault(k, []); x.append(data); if q: ..  : x is a name for the list at the place -/
def sAlias (j : Nat) (wp : TWP) (wk w : TW) (wq : TB) (W W' : TSW) : TSW := fun E => sSd wp wk fun i π ts ρ1 => i ≠ j ∧ j < ρ1.length ∧ w (ρ1.set j none) (asD fun d => ts.length < sizeLine ∧
  wq ((chgAt (ρ1.set j none) i π (.lst true (ts ++ [.fr d]))).set j (some (T.lend (.lst true (ts ++ [.fr d]))))) fun b =>
    if b = true then W E (chgAt (ρ1.set j none) i π (.lst true (ts ++ [.fr d]))) else W' E (chgAt (ρ1.set j none) i π (.lst true (ts ++ [.fr d]))))
theorem wss_alias {j : Nat} {x : Str} {q xe : Expr} {a b : List Stmt} {wq : TB} {W W' : TSW} {cq cA cB : Nat} {ap0 cp lp p1 p2 p4 : Pos} (hN : X.N.Nodup) (hi : X.N[j]? = some x) (hx : Loc X.env.scope x) (ho : WP X ca o wp) (hk : WE X cb k wk) (m : M2 X o "setdefault" ap0 k (.List [] lp) cp)
    (hv : PE X xe (tVar j)) (he : WE X cc e w) (hq : WT X cq q wq) (ha : WSs X np cA a W) (hb : WSs X np cB b W')
    (hs1 : swapsWith (.Call (.Attribute o "setdefault" ap0) [k, .List [] lp] [] cp) (some (.Name x p1)) p2.line X.env = pure false := by rfl)
    (hf : X.fn x = true ∨ X.env.scope.names.lookup x = some .local := by first | exact .inl rfl | exact .inr rfl | assumption)
    (hs : swapsWith (.Call (.Attribute xe "append" apos) [e] [] pos') none pos.line X.env = pure false := by rfl)
    (hbase : attributeBase xe "append" X.env (eval xe X.env) = eval xe X.env := by rfl)
    (hfew : ((backTo pos' (starEach [e] X.env)).all (fun x => !x.1) && (backToKw pos' (keywordEach [] X.env)).all (fun x => x.1.isSome) && decide ([e].length + ([] : List Keyword).length + (if ([] : List Keyword).isEmpty then 0 else 1) < 30)) = true := by rfl)
    (hline : (apos.endLine == pos'.line) = true := by rfl) (hse : starEach [e] X.env = (false, eval e X.env) :: starEach [] X.env := by rfl) (hpl : (backTo pos' (starEach [] X.env)).any (·.1) = false := by rfl) :
    WSs X np ((ca + cb) + (cc + (cq + (cA + cB)))) [.Assign [.Name x p1] (.Call (.Attribute o "setdefault" ap0) [k, .List [] lp] [] cp) p2, .Expr (.Call (.Attribute xe "append" apos) [e] [] pos') pos, .If q a b p4] (sAlias j wp wk w wq W W') :=
  PSs.imp (pss_cons (ps_set hN hi hx (pe_dsetd ho hk (wk_lst wks_nil) m) hs1 hf) (pss_cons (ps_expr (pe_bm PySem.F.plainAttrs_list PySem.F.slot_list_append PySem.F.type_list_append (show MtR X "list.append" rAppend from mt_append) hv (pa_cons he pa_nil hse) hbase hfew hline hse hpl) hs) (pss_one (ps_if hq ha hb)))) fun D σ H ⟨Z, G, ρ, E, hZ, s, hn, hw, g⟩ => by
  refine sd_run s (by omega) hw fun u i π ts ρ1 G1 H1 s1 n1 p1 ht q1 => ?_
  obtain ⟨hij, hj, q1⟩ := q1
  have s2 := s1.any j (some u)
  have lij : look (ρ1.set j none) i = look ρ1 i := look_set_ne ρ1 j i none (Ne.symm hij)
  have ht2 : tAt (ρ1.set j none) i π = some (.lst true ts) := by unfold tAt at ht ⊢; rw [lij]; exact ht
  have p2 : Pl X.K G1 H1 (σ.set j (some u)) (ρ1.set j none) i π u := by
    obtain ⟨fp, _, t, t0, v0, gg, e1, e2, e3, e4, _, _⟩ := p1
    exact Pl.of s2 (by rw [lij]; exact e1) e2 (by rw [List.getElem?_set_ne (Ne.symm hij)]; exact e3) e4
  obtain ⟨a0, v0, t, g0, e1, e2, N, rfl, vs, hla, rt⟩ := pl_lst s2 p2 ht2
  have hsl : σ.length = ρ1.length := by
    obtain ⟨fp, r, _⟩ := s1.rep
    exact r.length
  have sj : (σ.set j (some (V.ref a0)))[j]? = some (some (V.ref a0)) := by rw [List.getElem?_set_self (by omega)]
  refine ⟨.ref a0, sj, .inl ⟨rfl, _, SqL.of hla⟩, ?_⟩
  refine s2.evx (Ext.refl s2.hd) (by omega) q1 fun y t0 f G2 H2 x2 y2 ry lk2 q2 => ?_
  obtain ⟨d, rfl, rd, hts, q3⟩ := isD ry q2
  have h2 := y2.hi
  obtain ⟨vs2, hl, h3, s3, r3⟩ := N.app2 x2 (.fr rd) fresh_nil
  refine ⟨a0, vs2, y, rfl, rfl, h3, by rw [hl]; exact hts, ?_⟩
  have eρ := chgAt_ok (t' := .lst true (ts ++ [.fr d])) (π := π) e1
  have p3 := Pl.of s3 (look_set_self (look_lt e1)) (at_upd π _ e2) N.slot r3
  have hta : tAt (chgAt (ρ1.set j none) i π (.lst true (ts ++ [.fr d]))) i π = some (.lst true (ts ++ [.fr d])) := tAt_chg ht2 (look_lt e1)
  rw [← eρ] at s3 p3
  obtain ⟨t2, e5, e6⟩ := tAt_ok hta
  obtain ⟨fp3, rs3, pp3⟩ := p3
  obtain ⟨g3, rt3, m3⟩ := pp3.rep e5 e6
  have lj : look (chgAt (ρ1.set j none) i π (.lst true (ts ++ [.fr d]))) j = none := by
    rw [eρ, look_set_ne _ i j _ hij]
    exact look_set_none ρ1 j
  have hlen2 : j < (chgAt (ρ1.set j none) i π (.lst true (ts ++ [.fr d]))).length := by rw [eρ]; simpa using hj
  obtain ⟨f1, f2, rfl, rs4⟩ := RepS.put rt3.lend j rs3 hlen2 lj
  rw [show (σ.set j (some (V.ref a0))).set j (some (V.ref a0)) = σ.set j (some (V.ref a0)) from List.set_set ..] at rs4
  refine ⟨G2, _, _, _, s3.hd, rs4, by omega, q3, fun bb G5 H5 x5 lk5 q5 => ?_⟩
  have h5 := x5.hi
  have s5 := s3.ext x5
  cases bb with
  | true => exact iteT ⟨Z, G5, _, E, hZ, s5, by omega, uT q5, g.sub (by omega)⟩
  | false => exact iteF ⟨Z, G5, _, E, hZ, s5, by omega, uF q5, g.sub (by omega)⟩
end
end TL
set_option Elab.async false
set_option linter.all false
set_option maxRecDepth 100000
set_option maxHeartbeats 1000000
/-! TL21: results beside the slots; frozen for ever. -/
namespace TL
open PySem PySem.Spec PyProof.Rows L2
abbrev TWM := Rho → (T → Rho → Prop) → (Addr → List (Str × D) → Rho → Prop) → Prop
def liftM (K : PySem.W.Frag) (np : Np) (c : Nat) (w : TWM) : TE := fun σ H Q => ∃ Z G ρ P R, Z.pins.length = np.n ∧ StOk K Z G H σ ρ ∧ G.n + c ≤ LIM ∧ w ρ P R ∧
  (∀ v t ρ' G' H', Res K Z G' H' σ ρ' v t → G'.n ≤ G.n + c → LenOk K H' → P t ρ' → Q v H') ∧
  (∀ C dx fs vs ρ' G' H', StOk K Z G' H' σ ρ' → G'.n ≤ G.n + c → H' dx = some (.xd ((fs.map (·.1)).zip vs)) → RepDs K G' vs (fs.map (·.2)) → R C fs ρ' → np.wx (.ref C) (some dx) σ H')
def WM (X : Cx) (np : Np) (c : Nat) (e : Expr) (w : TWM) : Prop := PE X e (liftM X.K np c w)
section
variable {K : PySem.W.Frag} {G G' : Gh} {H H' : Hp} {c : Nat} {σ : L2.St} {ρ : Rho} {Z : Ctx}
theorem Res.ofMk {v : V} {t : T} {f : Fps} (s : StOk K Z G H σ ρ) (x : Ext c G H G' H') (r : RepT K G' H' v t f) (fr : Fresh H f) : Res K Z G' H' σ ρ v t := by
  have s' := s.ext x
  obtain ⟨fp, r0, n, m, l⟩ := s.rep
  refine ⟨s', fp, f, r0.ext x, r, ?_, fun a ha => ?_, fun a ha => ?_⟩
  · rw [mines_app]
    refine List.nodup_append.mpr ⟨fr.1, n, fun p hp q hq e => ?_⟩
    subst e
    exact repS_there r0 _ (mem_mines.mp hq) (fr.2 _ (mem_mines.mp hp)).2
  · rcases List.mem_append.mp ha with h | h
    · have h1 := (fr.2 _ h).2
      cases q : Z.H0 a with
      | none => rfl
      | some u => exact absurd h1 (s.there a (by rw [q]; exact fun z => nomatch z))
    · exact m a h
  · rcases List.mem_append.mp ha with h | h
    · have := (fr.2 _ h).1; cases this
    · exact l a h
/-- one slot is taken out -/
theorem RepS.take1 : ∀ {σ : L2.St} {ρ : Rho} {fp : Fps} (i : Nat) {t : T}, RepS K G H σ ρ fp → TL.look ρ i = some t → ∃ v f fp', σ[i]? = some (some v) ∧ RepT K G H v t f ∧ RepS K G H σ (ρ.set i none) fp' ∧ fp.Perm (f ++ fp')
  | _, _, _, _, _, .nil, h => nomatch h
  | _, _, _, 0, _, .no s, h => nomatch h
  | _, _, _, 0, _, .so (v := v) (f := f) (g := g) r s, h => by
    cases h
    exact ⟨v, f, g, rfl, r, .no s, List.Perm.refl _⟩
  | _, _, _, i + 1, _, .no s, h => by
    obtain ⟨v, f, fp', e2, r, s', p⟩ := RepS.take1 i s h
    exact ⟨v, f, fp', by simpa using e2, r, .no s', p⟩
  | _, _, _, i + 1, _, .so (f := f0) r0 s, h => by
    obtain ⟨v, f, fp', e2, r, s', p⟩ := RepS.take1 i s h
    refine ⟨v, f, f0 ++ fp', by simpa using e2, r, .so r0 s', ?_⟩
    refine (List.Perm.append_left f0 p).trans ?_
    rw [← List.append_assoc, ← List.append_assoc]
    exact List.Perm.append_right _ List.perm_append_comm
/-- .. is put back -/
theorem RepS.put1 {v : V} {t : T} {f : Fps} (r : RepT K G H v t f) : ∀ {σ : L2.St} {ρ : Rho} {fp : Fps} (i : Nat), RepS K G H σ ρ fp → i < ρ.length → TL.look ρ i = none → σ[i]? = some (some v) → ∃ fp', RepS K G H σ (ρ.set i (some t)) fp' ∧ fp'.Perm (f ++ fp)
  | _, _, _, _, .nil, h, _, _ => nomatch h
  | _, _, _, 0, .no (o := o) s, _, _, e => by
    have : o = some v := by simpa using e
    subst this
    exact ⟨f ++ _, .so r s, List.Perm.refl _⟩
  | _, _, _, 0, .so _ s, _, h, _ => nomatch h
  | _, _, _, i + 1, .no s, hl, h, e => by
    obtain ⟨fp', q, p⟩ := RepS.put1 r i s (by simpa using hl) h (by simpa using e)
    exact ⟨fp', .no q, p⟩
  | _, _, _, i + 1, .so (f := f0) r0 s, hl, h, e => by
    obtain ⟨fp', q, p⟩ := RepS.put1 r i s (by simpa using hl) h (by simpa using e)
    refine ⟨f0 ++ fp', .so r0 q, (List.Perm.append_left f0 p).trans ?_⟩
    rw [← List.append_assoc, ← List.append_assoc]
    exact List.Perm.append_right _ List.perm_append_comm
theorem perm_mines {f g : Fps} (p : f.Perm g) : (mines f).Perm (mines g) := (p.filter _).map _
/-- a slot is handed on -/
theorem Res.take {i : Nat} {t : T} (s : StOk K Z G H σ ρ) (e : look ρ i = some t) : ∃ v, σ[i]? = some (some v) ∧ Res K Z G H σ (ρ.set i none) v t := by
  obtain ⟨fp, r, n, m, l⟩ := s.rep
  obtain ⟨v, f, fp', e2, rt, r', p⟩ := RepS.take1 i r e
  exact ⟨v, e2, s.forget i, fp', f, r', rt, (perm_mines p).nodup_iff.mp n, fun a ha => m a (p.mem_iff.mpr ha), fun a ha => l a (p.mem_iff.mpr ha)⟩
/-- .. into a slot -/
theorem Res.set {i : Nat} {v : V} {t : T} (r : Res K Z G H σ ρ v t) (hi : i < ρ.length) (hz : Z.pins.length ≤ i ∨ t.mine = false) : StOk K Z G H (σ.set i (some v)) (ρ.set i (some t)) := by
  obtain ⟨s, fp, f, r0, rt, n, m, l⟩ := r
  obtain ⟨fp1, r1, sb⟩ := RepS.any (some v) i r0
  have hsl : σ.length = ρ.length := r0.length
  obtain ⟨fp2, r2, p⟩ := RepS.put1 rt i r1 (by simpa using hi) (look_set_none ρ i) (by rw [List.getElem?_set_self (by omega)])
  rw [List.set_set] at r2
  have sbl : (f ++ fp1).Sublist (f ++ fp) := List.Sublist.append (List.Sublist.refl _) sb
  refine ⟨s.hd, ⟨fp2, r2, ?_, fun a ha => m a (sbl.subset (p.mem_iff.mp ha)), fun a ha => l a (sbl.subset (p.mem_iff.mp ha))⟩, s.sub, s.new, s.keep, s.there, s.lo, fun j u w e1 e2 e3 => ?_⟩
  · refine (perm_mines p).nodup_iff.mpr ?_
    unfold mines at n ⊢
    exact ((sbl.filter _).map _).nodup n
  · by_cases h : i = j
    · subst h
      rcases look_set_eq ρ i (some t) with q | q
      · rw [q] at e2; cases e2
        rcases hz with hz | hz
        · rw [List.getElem?_eq_none hz] at e1; cases e1
        · rw [e3] at hz; cases hz
      · rw [q] at e2; cases e2
    · rw [look_set_ne ρ i j _ h] at e2
      rw [List.getElem?_set_ne h]
      exact s.pin j u w e1 e2 e3
end
/-! ### frozen -/
mutual
def T.frz : T → Option D
  | .fr d => some d
  | .tup ts => (T.frzs ts).map .tup
  | .lst m ts => if m = true then (T.frzs ts).map .lst else none
  | .dk m kvs => if m = true then (T.frzk kvs).map .dk else none
  | .dt m kvs => if m = true then (T.frzt kvs).map .dt else none
  | .ins m C fs => if m = true then (T.frzf fs).map (.ins C) else none
def T.frzs : List T → Option (List D)
  | [] => some []
  | t :: ts => match t.frz, T.frzs ts with
    | some d, some ds => some (d :: ds)
    | _, _ => none
def T.frzk : List (KY × T) → Option (List (KY × D))
  | [] => some []
  | (k, t) :: ts => match t.frz, T.frzk ts with
    | some d, some ds => some ((k, d) :: ds)
    | _, _ => none
def T.frzt : List (List KY × T) → Option (List (List KY × D))
  | [] => some []
  | (k, t) :: ts => match t.frz, T.frzt ts with
    | some d, some ds => some ((k, d) :: ds)
    | _, _ => none
def T.frzf : List (Str × T) → Option (List (Str × D))
  | [] => some []
  | (k, t) :: ts => match t.frz, T.frzf ts with
    | some d, some ds => some ((k, d) :: ds)
    | _, _ => none
end
theorem frzk_1 : ∀ {kvs : List (KY × T)} {ds : List (KY × D)}, T.frzk kvs = some ds → kvs.map (toK ·.1) = ds.map (toK ·.1) ∧ T.frzs (kvs.map (·.2)) = some (ds.map (·.2))
  | [], _, h => by cases h; exact ⟨rfl, rfl⟩
  | (k, t) :: ts, ds, h => by
    unfold T.frzk at h
    split at h
    · next d ds' h1 h2 =>
      cases h
      obtain ⟨e1, e2⟩ := frzk_1 h2
      refine ⟨by simp [e1], ?_⟩
      show T.frzs (t :: ts.map (·.2)) = _
      unfold T.frzs
      rw [h1, e2]
      rfl
    · cases h
theorem frzt_1 : ∀ {kvs : List (List KY × T)} {ds : List (List KY × D)}, T.frzt kvs = some ds → kvs.map (·.1.map toK) = ds.map (·.1.map toK) ∧ T.frzs (kvs.map (·.2)) = some (ds.map (·.2))
  | [], _, h => by cases h; exact ⟨rfl, rfl⟩
  | (k, t) :: ts, ds, h => by
    unfold T.frzt at h
    split at h
    · next d ds' h1 h2 =>
      cases h
      obtain ⟨e1, e2⟩ := frzt_1 h2
      refine ⟨by simp only [List.map_cons, e1], ?_⟩
      show T.frzs (t :: ts.map (·.2)) = _
      unfold T.frzs
      rw [h1, e2]
      rfl
    · cases h
theorem frzf_1 : ∀ {kvs : List (Str × T)} {ds : List (Str × D)}, T.frzf kvs = some ds → kvs.map (·.1) = ds.map (·.1) ∧ T.frzs (kvs.map (·.2)) = some (ds.map (·.2))
  | [], _, h => by cases h; exact ⟨rfl, rfl⟩
  | (k, t) :: ts, ds, h => by
    unfold T.frzf at h
    split at h
    · next d ds' h1 h2 =>
      cases h
      obtain ⟨e1, e2⟩ := frzf_1 h2
      refine ⟨by simp [e1], ?_⟩
      show T.frzs (t :: ts.map (·.2)) = _
      unfold T.frzs
      rw [h1, e2]
      rfl
    · cases h
section
variable {K : PySem.W.Frag} {G G' : Gh} {H H' : Hp} {c : Nat} {σ : L2.St} {ρ : Rho} {Z : Ctx}
theorem map_some {α β : Type} {o : Option α} {f : α → β} {b : β} (h : o.map f = some b) : ∃ a, o = some a ∧ f a = b := by
  cases o with
  | none => cases h
  | some a => cases h; exact ⟨a, rfl, rfl⟩
mutual
theorem frz_ok (sb : ∀ a g, G.obj a = some g → G'.obj a = some g) : ∀ {v : V} {t : T} {f : Fps} {d : D}, RepT K G H v t f → t.frz = some d → (∀ a o, (true, a) ∈ f → H a = some o → G'.obj a = some (.ho o)) → RepD K G' v d ∧ ∀ q ∈ f, q.1 = true
  | _, _, _, d, .fr r, h, _ => by
    unfold T.frz at h
    cases h
    exact ⟨r.mono sb, fun _ z => nomatch z⟩
  | _, _, _, d, .tup e r, h, k => by
    unfold T.frz at h
    obtain ⟨ds, h1, rfl⟩ := map_some h
    obtain ⟨r1, r2⟩ := frzs_ok sb r h1 k
    exact ⟨.tup (sb _ _ e) r1, r2⟩
  | _, _, _, d, .lst (m := m) e n r, h, k => by
    unfold T.frz at h
    cases m with
    | false => rw [if_neg Bool.false_ne_true] at h; cases h
    | true =>
      rw [if_pos rfl] at h
      obtain ⟨ds, h1, rfl⟩ := map_some h
      obtain ⟨r1, r2⟩ := frzs_ok sb r h1 fun a o m => k a o (List.mem_cons_of_mem _ m)
      refine ⟨.lst (k _ _ (List.mem_cons_self ..) e) r1, fun q hq => ?_⟩
      rcases List.mem_cons.mp hq with rfl | hq
      · rfl
      · exact r2 q hq
  | _, _, _, d, .dk (m := m) e n r, h, k => by
    unfold T.frz at h
    cases m with
    | false => rw [if_neg Bool.false_ne_true] at h; cases h
    | true =>
      rw [if_pos rfl] at h
      obtain ⟨ds, h1, rfl⟩ := map_some h
      obtain ⟨e1, e2⟩ := frzk_1 h1
      obtain ⟨r1, r2⟩ := frzs_ok sb r e2 fun a o m => k a o (List.mem_cons_of_mem _ m)
      refine ⟨.dk (by rw [← e1]; exact k _ _ (List.mem_cons_self ..) e) r1, fun q hq => ?_⟩
      rcases List.mem_cons.mp hq with rfl | hq
      · rfl
      · exact r2 q hq
  | _, _, _, d, .dt (m := m) e n r, h, k => by
    unfold T.frz at h
    cases m with
    | false => rw [if_neg Bool.false_ne_true] at h; cases h
    | true =>
      rw [if_pos rfl] at h
      obtain ⟨ds, h1, rfl⟩ := map_some h
      obtain ⟨e1, e2⟩ := frzt_1 h1
      obtain ⟨r1, r2⟩ := frzs_ok sb r e2 fun a o m => k a o (List.mem_cons_of_mem _ m)
      refine ⟨.dt (by rw [← e1]; exact k _ _ (List.mem_cons_self ..) e) r1, fun q hq => ?_⟩
      rcases List.mem_cons.mp hq with rfl | hq
      · rfl
      · exact r2 q hq
  | _, _, _, d, .ins (m := m) e n x nd r, h, k => by
    unfold T.frz at h
    cases m with
    | false => rw [if_neg Bool.false_ne_true] at h; cases h
    | true =>
      rw [if_pos rfl] at h
      obtain ⟨ds, h1, rfl⟩ := map_some h
      obtain ⟨e1, e2⟩ := frzf_1 h1
      obtain ⟨r1, r2⟩ := frzs_ok sb r e2 fun a o m => k a o (List.mem_cons_of_mem _ (List.mem_cons_of_mem _ m))
      refine ⟨.ins (by rw [← e1]; exact k _ _ (List.mem_cons_self ..) e) r1, fun q hq => ?_⟩
      rcases List.mem_cons.mp hq with rfl | hq
      · rfl
      · rcases List.mem_cons.mp hq with rfl | hq
        · rfl
        · exact r2 q hq
theorem frzs_ok (sb : ∀ a g, G.obj a = some g → G'.obj a = some g) : ∀ {vs : List V} {ts : List T} {f : Fps} {ds : List D}, RepTs K G H vs ts f → T.frzs ts = some ds → (∀ a o, (true, a) ∈ f → H a = some o → G'.obj a = some (.ho o)) → RepDs K G' vs ds ∧ ∀ q ∈ f, q.1 = true
  | _, _, _, ds, .nil, h, _ => by
    unfold T.frzs at h
    cases h
    exact ⟨.nil, fun _ z => nomatch z⟩
  | _, _, _, ds, .cons r s, h, k => by
    unfold T.frzs at h
    split at h
    · next d ds' h1 h2 =>
      cases h
      obtain ⟨a1, a2⟩ := frz_ok sb r h1 fun a o m => k a o (List.mem_append_left _ m)
      obtain ⟨b1, b2⟩ := frzs_ok sb s h2 fun a o m => k a o (List.mem_append_right _ m)
      exact ⟨.cons a1 b1, fun q hq => (List.mem_append.mp hq).elim (a2 q) (b2 q)⟩
    · cases h
end
mutual
theorem repT_free : ∀ {v : V} {t : T} {f : Fps}, RepT K G H v t f → ∀ q ∈ f, G.obj q.2 = none
  | _, _, _, .fr r => fun _ z => nomatch z
  | _, _, _, .tup e r => repTs_free r
  | _, _, _, .lst e n r => fun q hq => by
    rcases List.mem_cons.mp hq with rfl | hq
    · exact n
    · exact repTs_free r q hq
  | _, _, _, .dk e n r => fun q hq => by
    rcases List.mem_cons.mp hq with rfl | hq
    · exact n
    · exact repTs_free r q hq
  | _, _, _, .dt e n r => fun q hq => by
    rcases List.mem_cons.mp hq with rfl | hq
    · exact n
    · exact repTs_free r q hq
  | _, _, _, .ins e n x nd r => fun q hq => by
    rcases List.mem_cons.mp hq with rfl | hq
    · exact n
    · rcases List.mem_cons.mp hq with rfl | hq
      · exact nd
      · exact repTs_free r q hq
theorem repTs_free : ∀ {vs : List V} {ts : List T} {f : Fps}, RepTs K G H vs ts f → ∀ q ∈ f, G.obj q.2 = none
  | _, _, _, .nil => fun _ z => nomatch z
  | _, _, _, .cons r t => fun q hq => (List.mem_append.mp hq).elim (repT_free r q) (repTs_free t q)
end
theorem RepS.mono (sb : ∀ a g, G.obj a = some g → G'.obj a = some g) : ∀ {σ : L2.St} {ρ : Rho} {f : Fps}, RepS K G H σ ρ f → (∀ q ∈ f, ∀ o, H q.2 = some o → G.obj q.2 = none → H' q.2 = some o ∧ G'.obj q.2 = none) → RepS K G' H' σ ρ f
  | _, _, _, .nil, _ => .nil
  | _, _, _, .no s, k => .no (RepS.mono sb s k)
  | _, _, _, .so r s, k => .so (r.mono sb fun q hq => k q (List.mem_append_left _ hq)) (RepS.mono sb s fun q hq => k q (List.mem_append_right _ hq))
open Classical in
/-- the result stands still from now on -/
theorem Res.frz {v : V} {t : T} {d : D} (r : Res K Z G H σ ρ v t) (h : t.frz = some d) : ∃ G', Res K Z G' H σ ρ v (.fr d) ∧ G'.n = G.n := by
  obtain ⟨s, fp, f, r0, rt, n, m, l⟩ := r
  have free := repT_free rt
  let G' : Gh := ⟨fun b => if (true, b) ∈ f then (H b).map .ho else G.obj b, G.n⟩
  have hin : ∀ a, (true, a) ∈ f → G'.obj a = (H a).map .ho := fun a ha => if_pos ha
  have hout : ∀ a, (true, a) ∉ f → G'.obj a = G.obj a := fun a ha => if_neg ha
  have sb : ∀ a g, G.obj a = some g → G'.obj a = some g := fun a g e => by
    rw [hout a fun z => by have := free _ z; rw [e] at this; cases this]; exact e
  have hd : Holds G' H := by
    refine ⟨fun b u e => ?_, fun b e => ?_, fun b ns e => ?_, fun b q e => ?_⟩ <;> by_cases z : (true, b) ∈ f
    · rw [hin b z] at e
      obtain ⟨o, e1, e2⟩ := map_some e
      cases e2; exact .inl e1
    · rw [hout b z] at e; exact s.hd.ho b u e
    · rw [hin b z] at e
      obtain ⟨o, e1, e2⟩ := map_some e
      cases e2
    · rw [hout b z] at e; exact s.hd.rng b e
    · rw [hin b z] at e
      obtain ⟨o, e1, e2⟩ := map_some e
      cases e2
    · rw [hout b z] at e; exact s.hd.scr b ns e
    · rw [hin b z] at e
      obtain ⟨o, e1, e2⟩ := map_some e
      cases e2
    · rw [hout b z] at e; exact s.hd.tab b q e
  obtain ⟨rd, _⟩ := frz_ok sb rt h fun a o ma e => by rw [hin a ma, e]; rfl
  rw [mines_app] at n
  have n1 := List.nodup_append.mp n
  have nf : ∀ q ∈ fp, (true, q.2) ∉ f := fun q hq z => by
    obtain ⟨b, q2⟩ := q
    cases b with
    | true => exact n1.2.2 q2 (mem_mines.mpr z) q2 (mem_mines.mpr hq) rfl
    | false => exact l q2 (List.mem_append_right _ hq) (m q2 (List.mem_append_left _ z))
  refine ⟨G', Res.ofD ⟨hd, ⟨fp, r0.mono sb fun q hq o e ng => ⟨e, by rw [hout _ (nf q hq)]; exact ng⟩, n1.2.1, fun a ha => m a (List.mem_append_right _ ha), fun a ha => l a (List.mem_append_right _ ha)⟩, fun a g e => sb a g (s.sub a g e), fun a e z => ?_, s.keep, s.there, s.lo, s.pin⟩ rd, rfl⟩
  by_cases q : (true, a) ∈ f
  · exact m a (List.mem_append_left _ q)
  · rw [hout a q] at z; exact s.new a e z
end
end TL
set_option Elab.async false
set_option linter.all false
set_option maxRecDepth 100000
set_option maxHeartbeats 1000000
/-! TL22: defs that change what they are handed, that hand out new things, that raise. -/
namespace TL
open PySem PySem.Spec PyProof.Rows L2
mutual
/-- all of it is ours -/
def T.own : T → Bool
  | .fr _ => true
  | .tup ts => T.owns ts
  | .lst m ts => m && T.owns ts
  | .dk m kvs => m && T.ownk kvs
  | .dt m kvs => m && T.ownt kvs
  | .ins m _ fs => m && T.ownf fs
def T.owns : List T → Bool
  | [] => true
  | t :: ts => t.own && T.owns ts
def T.ownk : List (KY × T) → Bool
  | [] => true
  | (_, t) :: ts => t.own && T.ownk ts
def T.ownt : List (List KY × T) → Bool
  | [] => true
  | (_, t) :: ts => t.own && T.ownt ts
def T.ownf : List (Str × T) → Bool
  | [] => true
  | (_, t) :: ts => t.own && T.ownf ts
end
theorem ownk_1 : ∀ kvs : List (KY × T), T.ownk kvs = T.owns (kvs.map (·.2))
  | [] => rfl
  | (k, t) :: ts => by simp only [T.ownk, T.owns, List.map_cons, ownk_1 ts]
theorem ownt_1 : ∀ kvs : List (List KY × T), T.ownt kvs = T.owns (kvs.map (·.2))
  | [] => rfl
  | (k, t) :: ts => by simp only [T.ownt, T.owns, List.map_cons, ownt_1 ts]
theorem ownf_1 : ∀ kvs : List (Str × T), T.ownf kvs = T.owns (kvs.map (·.2))
  | [] => rfl
  | (k, t) :: ts => by simp only [T.ownf, T.owns, List.map_cons, ownf_1 ts]
def ownO : Rho → Bool
  | [] => true
  | some t :: ρ => t.own && ownO ρ
  | none :: ρ => ownO ρ
section
variable {K : PySem.W.Frag} {G G' : Gh} {H H' : Hp} {c : Nat} {σ : L2.St} {ρ : Rho} {Z : Ctx}
mutual
theorem own_ok : ∀ {v : V} {t : T} {f : Fps}, RepT K G H v t f → t.own = true → ∀ q ∈ f, q.1 = true
  | _, _, _, .fr _, _ => fun _ z => nomatch z
  | _, _, _, .tup e r, h => owns_ok r h
  | _, _, _, .lst e n r, h => fun q hq => by
    obtain ⟨h1, h2⟩ := Bool.and_eq_true_iff.mp h
    rcases List.mem_cons.mp hq with rfl | hq
    · exact h1
    · exact owns_ok r h2 q hq
  | _, _, _, .dk e n r, h => fun q hq => by
    obtain ⟨h1, h2⟩ := Bool.and_eq_true_iff.mp h
    rcases List.mem_cons.mp hq with rfl | hq
    · exact h1
    · exact owns_ok r (by rw [← ownk_1]; exact h2) q hq
  | _, _, _, .dt e n r, h => fun q hq => by
    obtain ⟨h1, h2⟩ := Bool.and_eq_true_iff.mp h
    rcases List.mem_cons.mp hq with rfl | hq
    · exact h1
    · exact owns_ok r (by rw [← ownt_1]; exact h2) q hq
  | _, _, _, .ins e n x nd r, h => fun q hq => by
    obtain ⟨h1, h2⟩ := Bool.and_eq_true_iff.mp h
    rcases List.mem_cons.mp hq with rfl | hq
    · exact h1
    · rcases List.mem_cons.mp hq with rfl | hq
      · exact h1
      · exact owns_ok r (by rw [← ownf_1]; exact h2) q hq
theorem owns_ok : ∀ {vs : List V} {ts : List T} {f : Fps}, RepTs K G H vs ts f → T.owns ts = true → ∀ q ∈ f, q.1 = true
  | _, _, _, .nil, _ => fun _ z => nomatch z
  | _, _, _, .cons r s, h => fun q hq => by
    obtain ⟨h1, h2⟩ := Bool.and_eq_true_iff.mp h
    exact (List.mem_append.mp hq).elim (own_ok r h1 q) (owns_ok s h2 q)
end
theorem ownO_ok : ∀ {σ : L2.St} {ρ : Rho} {f : Fps}, RepS K G H σ ρ f → ownO ρ = true → ∀ q ∈ f, q.1 = true
  | _, _, _, .nil, _ => fun _ z => nomatch z
  | _, _, _, .no s, h => ownO_ok s h
  | _, _, _, .so r s, h => fun q hq => by
    obtain ⟨h1, h2⟩ := Bool.and_eq_true_iff.mp h
    exact (List.mem_append.mp hq).elim (own_ok r h1 q) (ownO_ok s h2 q)
end
/-- the heap behind a def that may change what stands in M -/
structure ExtM (M : List Addr) (c : Nat) (G : Gh) (H : Hp) (G' : Gh) (H' : Hp) : Prop where
  hd : Holds G' H'
  sub : ∀ a g, G.obj a = some g → G'.obj a = some g
  new : ∀ a, G.obj a = none → G'.obj a ≠ none → H a = none ∨ a ∈ M
  keep : ∀ a o, H a = some o → mv (G.obj a) = false → a ∉ M → H' a = some o
  lo : G.n ≤ G'.n
  hi : G'.n ≤ G.n + c
/-- the trees of what was handed in to be changed, behind the def -/
def give : List T → Rho → Rho
  | [], _ => []
  | _ :: ts, [] => none :: give ts []
  | t :: ts, o :: ρ => (if t.mine = true then (match o with
    | some u => if u.mine = true then some u else none
    | none => none) else none) :: give ts ρ
abbrev SpS := List T → (T → Rho → Prop) → (Addr → List (Str × D) → Prop) → Prop
def spM (K : PySem.W.Frag) (n c : Nat) (S : SpS) : Sp := fun vs H Q E => ∃ G ts fp P R, Holds G H ∧ RepTs K G H vs ts fp ∧ (mines fp).Nodup ∧ (∀ b, (false, b) ∈ fp → (true, b) ∉ fp) ∧ ts.length = n ∧ G.n + c ≤ LIM ∧ S ts P R ∧
  (∀ v t ρr fr fpr G' H', ExtM (mines fp) c G H G' H' → RepT K G' H' v t fr → RepS K G' H' (vs.map some) ρr fpr → (mines (fr ++ fpr)).Nodup → (∀ q ∈ fr ++ fpr, q.1 = true ∧ (q ∈ fp ∨ H q.2 = none)) → P t ρr → Q v H') ∧
  (∀ C dx fs vs' G' H', ExtM (mines fp) c G H G' H' → H' dx = some (.xd ((fs.map (·.1)).zip vs')) → RepDs K G' vs' (fs.map (·.2)) → R C fs → E (.ref C) (some dx) H')
section
variable {K : PySem.W.Frag} {G G' : Gh} {H H' : Hp} {c : Nat} {σ : L2.St} {ρ : Rho} {Z : Ctx}
theorem RepS.give : ∀ {vs : List V} {ts : List T} {σ : L2.St} {ρ : Rho} {fp : Fps}, RepS K G H σ ρ fp → vs.length = ts.length → (∀ i v t, vs[i]? = some v → TL.look ρ i = some t → t.mine = true → σ[i]? = some (some v)) →
    ∃ f, RepS K G H (vs.map some) (TL.give ts ρ) f ∧ f.Sublist fp
  | [], [], _, _, _, _, _, _ => ⟨[], .nil, List.nil_sublist _⟩
  | v :: vs, t :: ts, _, _, _, .nil, hl, h => by
    obtain ⟨f, r, s⟩ := RepS.give (vs := vs) (ts := ts) (σ := []) (ρ := []) (fp := []) .nil (by simpa using hl) fun i v t _ e _ => nomatch e
    exact ⟨f, .no r, s⟩
  | v :: vs, t :: ts, o :: σ, none :: ρ, fp, .no s, hl, h => by
    obtain ⟨f, r, sb⟩ := RepS.give (vs := vs) (ts := ts) s (by simpa using hl) fun i v t e1 e2 e3 => by simpa using h (i + 1) v t (by simpa using e1) e2 e3
    refine ⟨f, ?_, sb⟩
    unfold TL.give
    by_cases m : t.mine = true
    · rw [if_pos m]; exact .no r
    · rw [if_neg m]; exact .no r
  | v :: vs, t :: ts, some v2 :: σ, some t2 :: ρ, _, .so (f := f0) r0 s, hl, h => by
    obtain ⟨f, r, sb⟩ := RepS.give (vs := vs) (ts := ts) s (by simpa using hl) fun i v t e1 e2 e3 => by simpa using h (i + 1) v t (by simpa using e1) e2 e3
    unfold TL.give
    by_cases m : t.mine = true
    · rw [if_pos m]
      by_cases m2 : t2.mine = true
      · have := h 0 v t2 rfl rfl m2
        simp only [List.getElem?_cons_zero, Option.some.injEq] at this
        subst this
        refine ⟨f0 ++ f, ?_, List.Sublist.append (List.Sublist.refl _) sb⟩
        show RepS K G H _ ((if t2.mine = true then some t2 else none) :: _) _
        rw [if_pos m2]
        exact .so r0 r
      · refine ⟨f, ?_, sb.trans (List.sublist_append_right _ _)⟩
        show RepS K G H _ ((if t2.mine = true then some t2 else none) :: _) _
        rw [if_neg m2]
        exact .no r
    · rw [if_neg m]
      exact ⟨f, .no r, sb.trans (List.sublist_append_right _ _)⟩
  | [], _ :: _, _, _, _, _, hl, _ => by simp at hl
  | _ :: _, [], _, _, _, _, hl, _ => by simp at hl
end
theorem spM_len {K : PySem.W.Frag} {n c : Nat} {S : SpS} {vs : List V} {H : Hp} {Q : VK} {E : XK} (h : spM K n c S vs H Q E) : vs.length = n := by
  obtain ⟨G, ts, fp, P, R, hd, r, _, _, l, _⟩ := h
  rw [r.length, l]
/-- what a body must reach -/
def endM (ts : List T) (Q : T → Rho → Prop) (R : Addr → List (Str × D) → Prop) : ET where
  nx := fun ρ => ownO (give ts ρ) = true ∧ Q (.fr .non) (give ts ρ)
  rt := fun t ρ => t.own = true ∧ ownO (give ts ρ) = true ∧ Q t (give ts ρ)
  ex := fun C fs _ => R C fs
open Classical in
theorem def_okM {P : Program} {w : World} {K : PySem.W.Frag} {mg : Str → Option Value} {base : Heap} {x qual : Str} {params : Arguments} {body : List Stmt} {scope : Scope} {f : Addr} {fd : FuncData} {N ps : List Str} {k n c : Nat} {S : SpS} {W : TSW}
    (F : FunD K x qual params body scope [] [] f fd) (Sc : FnScope N ps scope) (hn : n = ps.length)
    (hbody : ∀ (cdv : Value) (A : Around) (outer : List Env) (s : Shared) (H : Hp) (E : XK), Room k (A.deeper (envOfC qual scope s.heap.objs.size f cdv)) → Takes (cxOf (L2.CX P w) P w K mg base N qual scope f cdv A outer s H E) (fun cls d _ H' => E cls d H') →
      WSs (cxOf (L2.CX P w) P w K mg base N qual scope f cdv A outer s H E) ⟨n, fun cls d _ H' => E cls d H'⟩ c body W)
    (hs : ∀ ts Q R, ts.length = n → S ts Q R → W (endM ts Q R) (rho N.length ts)) : FnOk P w K mg base (L2.CX P w) (k + 1) f fd ps (spM K n c S) := by
  refine F.ok Sc (fun vs H Q E h => (spM_len h).trans hn) fun cdv A outer s H vs Q E hr h => ?_
  obtain ⟨G, ts, fp, Pp, Rr, hd, r, nd, lent, hl, hc, hS, kk, kx⟩ := h
  have tk : Takes (cxOf (L2.CX P w) P w K mg base N qual scope f cdv A outer s H E) (fun cls d _ H' => E cls d H') := takes_of rfl rfl rfl rfl
  let H0 : Hp := fun a => if a ∈ mines fp then none else H a
  have h0in : ∀ a, a ∈ mines fp → H0 a = none := fun a h => if_pos h
  have h0out : ∀ a, a ∉ mines fp → H0 a = H a := fun a h => if_neg h
  have hvl : vs.length = n := by rw [r.length, hl]
  refine ⟨_, hbody cdv A outer s H E hr tk, ⟨⟨H0, G, vs⟩, G, rho N.length ts, endM ts Pp Rr, hvl, ?_, hc, hs ts Pp Rr hl hS, ?_⟩⟩
  · refine ⟨hd, ⟨fp, ?_, nd, fun a ha => h0in a (mem_mines.mpr ha), fun a ha => ?_⟩, fun _ _ e => e, fun _ e z => absurd e z, fun a o e _ => ?_, fun a z => ?_, Nat.le_refl _, fun i v t e1 e2 e3 => ?_⟩
    · unfold rho L2.start
      rw [r.length]
      exact repS_start r
    · show H0 a ≠ none
      rw [h0out a fun z => lent a ha (mem_mines.mp z)]
      exact repTs_there r _ ha
    · by_cases q : a ∈ mines fp
      · have := h0in a q; have e : H0 a = some o := e; rw [this] at e; cases e
      · rw [← h0out a q]; exact e
    · by_cases q : a ∈ mines fp
      · exact absurd (h0in a q) z
      · rw [← h0out a q]; exact z
    · show (vs.map some ++ _)[i]? = _
      have : i < vs.length := (List.getElem?_eq_some_iff.mp e1).1
      rw [List.getElem?_append_left (by simpa using this), List.getElem?_map, e1]
      rfl
  · have fin : ∀ σ ρ G' H', StOk K ⟨H0, G, vs⟩ G' H' σ ρ → G'.n ≤ G.n + c → ExtM (mines fp) c G H G' H' := fun σ ρ G' H' s' m => by
      refine ⟨s'.hd, s'.sub, fun a e z => ?_, fun a o e ng na => s'.keep a o (by show H0 a = some o; rw [h0out a na]; exact e) ng, s'.lo, m⟩
      have h1 := s'.new a e z
      by_cases q : a ∈ mines fp
      · exact .inr q
      · exact .inl (by rw [← h0out a q]; exact h1)
    have res : ∀ v t σ ρ G' H', Res K ⟨H0, G, vs⟩ G' H' σ ρ v t → G'.n ≤ G.n + c → t.own = true → ownO (give ts ρ) = true → Pp t (give ts ρ) → Q v H' := fun v t σ ρ G' H' s' m o1 o2 p => by
      obtain ⟨st, fp', f', r0, rt, nd', m', l'⟩ := s'
      obtain ⟨fg, rg, sg⟩ := RepS.give (vs := vs) (ts := ts) r0 (by rw [r.length]) st.pin
      have sb : (f' ++ fg).Sublist (f' ++ fp') := List.Sublist.append (List.Sublist.refl _) sg
      refine kk v t (give ts ρ) f' fg G' H' (fin _ _ _ _ st m) rt rg ?_ (fun q hq => ?_) p
      · unfold mines at nd' ⊢
        exact ((sb.filter _).map _).nodup nd'
      · have hq1 : q.1 = true := (List.mem_append.mp hq).elim (own_ok rt o1 q) (ownO_ok rg o2 q)
        refine ⟨hq1, ?_⟩
        obtain ⟨b, q2⟩ := q
        cases hq1
        have h1 := m' q2 (sb.subset hq)
        by_cases z : q2 ∈ mines fp
        · exact .inl (mem_mines.mp z)
        · exact .inr (by rw [← h0out q2 z]; exact h1)
    refine ⟨fun σ ρ G' H' s' m p => res .non (.fr .non) σ ρ G' H' (Res.ofD s' .non) m rfl p.1 p.2, fun v t σ ρ G' H' s' m p => res v t σ ρ G' H' s' m p.1 p.2.1 p.2.2, fun _ _ _ _ _ _ z => z.elim, fun _ _ _ _ _ _ z => z.elim, fun C dx fs vs' σ ρ G' H' s' m hx rd p => kx C dx fs vs' G' H' (fin _ _ _ _ s' m) hx rd p⟩
end TL
set_option Elab.async false
set_option linter.all false
set_option maxRecDepth 100000
set_option maxHeartbeats 1000000
/-! TL23: calls of such defs. -/
namespace TL
open PySem PySem.Spec PyProof.Rows L2
inductive Args (K : PySem.W.Frag) (G : Gh) (H : Hp) (σ : L2.St) : List (Option Nat) → List V → Rho → Fps → Prop
  | nil : Args K G H σ [] [] [] []
  | own {i : Nat} {v : V} {os : List (Option Nat)} {vs : List V} {ts : Rho} {f : Fps} : σ[i]? = some (some v) → Args K G H σ os vs ts f → Args K G H σ (some i :: os) (v :: vs) (none :: ts) f
  | val {v : V} {t : T} {os : List (Option Nat)} {vs : List V} {ts : Rho} {f g : Fps} : RepT K G H v t g → Args K G H σ os vs ts f → Args K G H σ (none :: os) (v :: vs) (some t :: ts) (g ++ f)
abbrev TWA := Rho → (Rho → Prop) → Prop
def liftAm (K : PySem.W.Frag) (c : Nat) (os : List (Option Nat)) (w : TWA) : TA := fun σ H Q => ∃ G ρ fp P, Holds G H ∧ RepS K G H σ ρ fp ∧ (∀ i, some i ∈ os → ∃ v, σ[i]? = some (some v)) ∧ G.n + c ≤ LIM ∧ w ρ P ∧
  ∀ vs ts f G' H', Ext c G H G' H' → Args K G' H' σ os vs ts f → (∀ q ∈ f, q ∈ fp) → LenOk K H' → P ts → Q vs H'
def WAm (X : Cx) (c : Nat) (es : List Expr) (os : List (Option Nat)) (w : TWA) : Prop := PA X es (liftAm X.K c os w)
section
variable {K : PySem.W.Frag} {G G' : Gh} {H H' : Hp} {c : Nat} {σ : L2.St} {ρ : Rho} {Z : Ctx}
theorem Args.ext {os : List (Option Nat)} {vs : List V} {ts : Rho} {f : Fps} (a : Args K G H σ os vs ts f) (x : Ext c G H G' H') : Args K G' H' σ os vs ts f := by
  induction a with
  | nil => exact .nil
  | own h _ ih => exact .own h ih
  | val r _ ih => exact .val (r.ext x) ih
def aNil : TWA := fun _ P => P []
def aOwn (w : TWA) : TWA := fun ρ P => w ρ fun ts => P (none :: ts)
def aVal (w : TW) (ws : TWA) : TWA := fun ρ P => w ρ fun t => ws ρ fun ts => P (some t :: ts)
end
section
variable {X : Cx} {e : Expr} {es : List Expr} {c ca cb : Nat} {wa : TW} {ws : TWA} {os : List (Option Nat)}
theorem wam_nil : WAm X 0 [] [] aNil := PA.imp pa_nil fun σ H Q ⟨G, ρ, fp, P, hd, rs, _, hn, hw, k⟩ lk => k [] [] [] G H (Ext.refl hd) .nil (fun _ z => nomatch z) lk hw
theorem wam_own {i : Nat} (ha : PE X e (tVar i)) (hr : WAm X cb es os ws) (hs : starEach (e :: es) X.env = (false, eval e X.env) :: starEach es X.env := by rfl) : WAm X cb (e :: es) (some i :: os) (aOwn ws) := PA.imp (pa_cons ha hr hs) fun σ H Q ⟨G, ρ, fp, P, hd, rs, ho, hn, hw, k⟩ => by
  obtain ⟨v, hv⟩ := ho i (List.mem_cons_self ..)
  refine ⟨v, hv, G, ρ, fp, _, hd, rs, fun j hj => ho j (List.mem_cons_of_mem _ hj), hn, hw, fun vs ts f G1 H1 x1 r1 f1 lk p lk2 => ?_⟩
  exact k (v :: vs) (none :: ts) f G1 H1 x1 (.own hv r1) f1 lk p
theorem wam_val (ha : WE X ca e wa) (hr : WAm X cb es os ws) (hs : starEach (e :: es) X.env = (false, eval e X.env) :: starEach es X.env := by rfl) : WAm X (ca + cb) (e :: es) (none :: os) (aVal wa ws) := PA.imp (pa_cons ha hr hs) fun σ H Q ⟨G, ρ, fp, P, hd, rs, ho, hn, hw, k⟩ => by
  refine ⟨G, ρ, fp, _, hd, rs, by omega, hw, fun v t f G1 H1 x1 r1 f1 lk1 hw1 => ?_⟩
  have := x1.hi
  refine ⟨G1, ρ, fp, _, x1.hd, rs.ext x1, fun j hj => ho j (List.mem_cons_of_mem _ hj), by omega, hw1, fun vs ts g G2 H2 x2 r2 f2 lk2 p lk3 => ?_⟩
  exact k (v :: vs) (some t :: ts) (f ++ g) G2 H2 (x1.trans x2) (.val (r1.ext x2) r2) (fun q hq => (List.mem_append.mp hq).elim (f1 q) (f2 q)) lk2 p
end
def clear : List (Option Nat) → Rho → Rho
  | [], ρ => ρ
  | some i :: os, ρ => clear os (ρ.set i none)
  | none :: os, ρ => clear os ρ
def ownOk : List (Option Nat) → Rho → Prop
  | [], _ => True
  | some i :: os, ρ => (match look ρ i with
    | some t => t.mine = true
    | none => False) ∧ ownOk os (ρ.set i none)
  | none :: os, ρ => ownOk os ρ
def mergeA : List (Option Nat) → Rho → Rho → List T
  | some i :: os, ρ, _ :: ts => (match look ρ i with
    | some t => t
    | none => .fr .non) :: mergeA os (ρ.set i none) ts
  | none :: os, ρ, some t :: ts => t.lend :: mergeA os ρ ts
  | _, _, _ => []
def back : List (Option Nat) → Rho → Rho → Rho
  | [], _, ρ => ρ
  | o :: os, ρr, ρ => match ρr with
    | [] => ρ
    | r :: ρr => match o, r with
      | some i, some t => (back os ρr ρ).set i (some t)
      | _, _ => back os ρr ρ
theorem back_1 {i : Nat} {t : T} {os : List (Option Nat)} {ρr ρ : Rho} : back (some i :: os) (some t :: ρr) ρ = (back os ρr ρ).set i (some t) := rfl
theorem back_2 {i : Nat} {os : List (Option Nat)} {ρr ρ : Rho} : back (some i :: os) (none :: ρr) ρ = back os ρr ρ := rfl
theorem back_3 {o : Option T} {os : List (Option Nat)} {ρr ρ : Rho} : back (none :: os) (o :: ρr) ρ = back os ρr ρ := by cases o <;> rfl
theorem back_4 {o : Option Nat} {os : List (Option Nat)} {ρ : Rho} : back (o :: os) [] ρ = ρ := rfl
theorem back_0 {ρr ρ : Rho} : back [] ρr ρ = ρ := by cases ρr <;> rfl
section
variable {K : PySem.W.Frag} {G G' : Gh} {H H' : Hp} {c : Nat} {σ : L2.St} {Z : Ctx}
theorem unm_app (f g : Fps) : unm (f ++ g) = unm f ++ unm g := by simp [unm]
theorem take_ok : ∀ (os : List (Option Nat)) {ρ : Rho} {fp : Fps}, RepS K G H σ ρ fp → ownOk os ρ → ∃ fO fR, RepS K G H σ (clear os ρ) fR ∧ fp.Perm (fO ++ fR) ∧
    ∀ (c : Nat) (G1 : Gh) (H1 : Hp) (vs : List V) (ts : Rho) (f : Fps), Ext c G H G1 H1 → Args K G1 H1 σ os vs ts f → ∃ fA, RepTs K G1 H1 vs (mergeA os ρ ts) fA ∧ fA.Perm (fO ++ unm f)
  | [], ρ, fp, r, _ => ⟨[], fp, r, List.Perm.refl _, fun c G1 H1 vs ts f x a => by
    cases a
    exact ⟨[], .nil, List.Perm.refl _⟩⟩
  | some i :: os, ρ, fp, r, o => by
    obtain ⟨o1, o2⟩ := o
    split at o1
    · next t e =>
      obtain ⟨v2, f1, fp1, e2, rt, r1, p1⟩ := RepS.take1 i r e
      obtain ⟨fO, fR, rR, p2, k⟩ := take_ok os r1 o2
      refine ⟨f1 ++ fO, fR, rR, ?_, fun c G1 H1 vs ts f x a => ?_⟩
      · rw [List.append_assoc]; exact p1.trans (List.Perm.append_left f1 p2)
      · cases a with
        | own h a =>
          rw [h] at e2; cases e2
          obtain ⟨fA, rA, p3⟩ := k c G1 H1 _ _ f x a
          refine ⟨f1 ++ fA, ?_, ?_⟩
          · have em : ∀ ts, mergeA (some i :: os) ρ (none :: ts) = t :: mergeA os (ρ.set i none) ts := fun ts => by
              show (match look ρ i with
                | some t => t
                | none => .fr .non) :: mergeA os (ρ.set i none) ts = _
              rw [e]
            rw [em]
            exact .cons (rt.ext x) rA
          · rw [List.append_assoc]; exact List.Perm.append_left f1 p3
    · exact o1.elim
  | none :: os, ρ, fp, r, o => by
    obtain ⟨fO, fR, rR, p2, k⟩ := take_ok os r o
    refine ⟨fO, fR, rR, p2, fun c G1 H1 vs ts f x a => ?_⟩
    cases a with
    | val rv a =>
      rename_i v t vs ts f2 g
      obtain ⟨fA, rA, p3⟩ := k c G1 H1 vs ts _ x a
      refine ⟨unm _ ++ fA, .cons rv.lend rA, ?_⟩
      rw [unm_app]
      refine (List.Perm.append_left _ p3).trans ?_
      rw [← List.append_assoc, ← List.append_assoc]
      exact List.Perm.append_right _ List.perm_append_comm
theorem clear_len : ∀ (os : List (Option Nat)) (ρ : Rho), (clear os ρ).length = ρ.length
  | [], _ => rfl
  | some i :: os, ρ => by rw [clear, clear_len]; simp
  | none :: os, ρ => by rw [clear, clear_len]
theorem look_clear_none : ∀ (os : List (Option Nat)) (ρ : Rho) (j : Nat), look ρ j = none → look (clear os ρ) j = none
  | [], _, _, h => h
  | some i :: os, ρ, j, h => by
    refine look_clear_none os _ j ?_
    by_cases e : i = j
    · subst e; exact look_set_none ρ i
    · rw [look_set_ne ρ i j _ e]; exact h
  | none :: os, ρ, j, h => look_clear_none os ρ j h
theorem look_clear_sub : ∀ (os : List (Option Nat)) (ρ : Rho) (j : Nat) {t : T}, look (clear os ρ) j = some t → look ρ j = some t
  | [], _, _, _, h => h
  | some i :: os, ρ, j, t, h => by
    have := look_clear_sub os _ j h
    by_cases e : i = j
    · subst e; rw [look_set_none] at this; cases this
    · rw [look_set_ne ρ i j _ e] at this; exact this
  | none :: os, ρ, j, _, h => look_clear_sub os ρ j h
theorem look_clear_own : ∀ (os : List (Option Nat)) (ρ : Rho) (j : Nat), some j ∈ os → look (clear os ρ) j = none
  | [], _, _, h => nomatch h
  | some i :: os, ρ, j, h => by
    by_cases e : i = j
    · subst e; exact look_clear_none os _ i (look_set_none ρ i)
    · refine look_clear_own os _ j ?_
      rcases List.mem_cons.mp h with h | h
      · cases h; exact absurd rfl e
      · exact h
  | none :: os, ρ, j, h => by
    refine look_clear_own os ρ j ?_
    rcases List.mem_cons.mp h with h | h
    · cases h
    · exact h
theorem ownOk_mine : ∀ (os : List (Option Nat)) (ρ : Rho) (j : Nat), ownOk os ρ → some j ∈ os → ∃ t, look ρ j = some t ∧ t.mine = true
  | [], _, _, _, h => nomatch h
  | some i :: os, ρ, j, o, h => by
    by_cases e : i = j
    · subst e
      have o1 := o.1
      split at o1
      · next t e => exact ⟨t, e, o1⟩
      · exact o1.elim
    · rcases List.mem_cons.mp h with h | h
      · cases h; exact absurd rfl e
      · obtain ⟨t, h1, h2⟩ := ownOk_mine os _ j o.2 h
        rw [look_set_ne ρ i j _ e] at h1
        exact ⟨t, h1, h2⟩
  | none :: os, ρ, j, o, h => by
    rcases List.mem_cons.mp h with h | h
    · cases h
    · exact ownOk_mine os ρ j o h
/-- none twice -/
def nodupO : List (Option Nat) → Prop
  | [] => True
  | some i :: os => some i ∉ os ∧ nodupO os
  | none :: os => nodupO os
theorem ownOk_nodup : ∀ (os : List (Option Nat)) (ρ : Rho), ownOk os ρ → nodupO os
  | [], _, _ => trivial
  | some i :: os, ρ, o => ⟨(fun h => by
    obtain ⟨t, h1, _⟩ := ownOk_mine os _ i o.2 h
    rw [look_set_none] at h1; cases h1), ownOk_nodup os _ o.2⟩
  | none :: os, ρ, o => ownOk_nodup os ρ o
theorem back_len : ∀ (os : List (Option Nat)) (ρr ρ : Rho), (back os ρr ρ).length = ρ.length
  | [], _, _ => by rw [back_0]
  | some i :: os, some t :: ρr, ρ => by rw [back_1, List.length_set, back_len os ρr ρ]
  | some i :: os, none :: ρr, ρ => by rw [back_2, back_len os ρr ρ]
  | none :: os, o :: ρr, ρ => by rw [back_3, back_len os ρr ρ]
  | some i :: os, [], ρ => rfl
  | none :: os, [], ρ => rfl
theorem look_back_ne : ∀ (os : List (Option Nat)) (ρr ρ : Rho) (j : Nat), some j ∉ os → look (back os ρr ρ) j = look ρ j
  | [], _, _, _, _ => by rw [back_0]
  | some i :: os, some t :: ρr, ρ, j, h => by
    rw [back_1, look_set_ne _ i j _ (fun z => h (by rw [z]; exact List.mem_cons_self ..))]
    exact look_back_ne os ρr ρ j fun z => h (List.mem_cons_of_mem _ z)
  | some i :: os, none :: ρr, ρ, j, h => by
    rw [back_2]
    exact look_back_ne os ρr ρ j fun z => h (List.mem_cons_of_mem _ z)
  | none :: os, o :: ρr, ρ, j, h => by
    rw [back_3]
    exact look_back_ne os ρr ρ j fun z => h (List.mem_cons_of_mem _ z)
  | some i :: os, [], ρ, j, h => rfl
  | none :: os, [], ρ, j, h => rfl
theorem back_ok {os : List (Option Nat)} {vs : List V} {ts : Rho} {f : Fps} (a : Args K G H σ os vs ts f) : ∀ {ρr ρ : Rho} {fpr fR : Fps}, RepS K G' H' (vs.map some) ρr fpr → RepS K G' H' σ ρ fR → nodupO os → (∀ i, some i ∈ os → look ρ i = none ∧ i < ρ.length) →
    ∃ fp fo, RepS K G' H' σ (back os ρr ρ) fp ∧ fo.Sublist fpr ∧ fp.Perm (fo ++ fR) := by
  induction a with
  | nil => exact fun _ r _ _ => ⟨_, [], by rw [back_0]; exact r, List.nil_sublist _, List.Perm.refl _⟩
  | @own i v os vs ts f h _ ih =>
    intro ρr ρ fpr fR rr r nd hn
    cases rr with
    | no rr =>
      obtain ⟨fp, fo, r1, s1, p1⟩ := ih rr r nd.2 fun j hj => hn j (List.mem_cons_of_mem _ hj)
      refine ⟨fp, fo, ?_, s1, p1⟩
      rw [back_2]
      exact r1
    | so rt rr =>
      rename_i t2 ρ2 f2 g2
      obtain ⟨fp, fo, r1, s1, p1⟩ := ih rr r nd.2 fun j hj => hn j (List.mem_cons_of_mem _ hj)
      obtain ⟨h1, h2⟩ := hn i (List.mem_cons_self ..)
      obtain ⟨fp2, r2, p2⟩ := RepS.put1 rt i r1 (by rw [back_len]; exact h2) (by rw [look_back_ne os _ _ i nd.1]; exact h1) h
      refine ⟨fp2, f2 ++ fo, r2, List.Sublist.append (List.Sublist.refl _) s1, p2.trans ?_⟩
      rw [List.append_assoc]
      exact List.Perm.append_left _ p1
  | @val v t os vs ts f g rv _ ih =>
    intro ρr ρ fpr fR rr r nd hn
    cases rr with
    | no rr =>
      obtain ⟨fp, fo, r1, s1, p1⟩ := ih rr r nd fun j hj => hn j (List.mem_cons_of_mem _ hj)
      refine ⟨fp, fo, ?_, s1, p1⟩
      rw [back_3]
      exact r1
    | so rt rr =>
      obtain ⟨fp, fo, r1, s1, p1⟩ := ih rr r nd fun j hj => hn j (List.mem_cons_of_mem _ hj)
      refine ⟨fp, fo, ?_, s1.trans (List.sublist_append_right _ _), p1⟩
      rw [back_3]
      exact r1
end
/-- f(own things, data ..) -/
def mCall (os : List (Option Nat)) (n : Nat) (S : SpS) (wa : TWA) : TWM := fun ρ P R => ownOk os ρ ∧ wa (clear os ρ) fun ts => (mergeA os ρ ts).length = n ∧ S (mergeA os ρ ts) (fun t ρr => P t (back os ρr (clear os ρ))) fun C fs => R C fs (clear os ρ)
theorem mines_unm (f : Fps) : mines (unm f) = [] := mines_lent (unm_lent f)
theorem impCallM {K : PySem.W.Frag} {np : Np} {c k n : Nat} {S : SpS} {os : List (Option Nat)} {wa : TWA} {σ : L2.St} {H : Hp} {Q : VK} (h : liftM K np (c + k) (mCall os n S wa) σ H Q) : tCallS (spM K n k S) (L2.WE np.wx) (liftAm K c os wa) σ H fun v H1 => LenOk K H1 → Q v H1 := by
  obtain ⟨Z, G, ρ, P, R, hZ, s, hn, ⟨own, hw⟩, kk, kx⟩ := h
  obtain ⟨fp, r, nd, m, l⟩ := s.rep
  obtain ⟨fO, fR, rR, p2, kA⟩ := take_ok os r own
  refine ⟨G, clear os ρ, fR, _, s.hd, rR, fun i hi => ?_, by omega, hw, fun vs ts f G1 H1 x1 a ff lk1 ⟨hl, hS⟩ => ?_⟩
  · obtain ⟨t, e, _⟩ := ownOk_mine os ρ i own hi
    obtain ⟨v, _, e2, _⟩ := r.look e
    exact ⟨v, e2⟩
  have h1 := x1.hi
  obtain ⟨fA, rA, p3⟩ := kA c G1 H1 vs ts f x1 a
  have s1 := s.ext x1
  have nd2 : (mines fO ++ mines fR).Nodup := by rw [← mines_app]; exact (perm_mines p2).nodup_iff.mp nd
  have nd3 := List.nodup_append.mp nd2
  have pA : (mines fA).Perm (mines fO) := by
    have := perm_mines p3
    rwa [mines_app, mines_unm, List.append_nil] at this
  have inO : ∀ q, q ∈ fO → q ∈ fp := fun q hq => p2.mem_iff.mpr (List.mem_append_left _ hq)
  have inR : ∀ q, q ∈ fR → q ∈ fp := fun q hq => p2.mem_iff.mpr (List.mem_append_right _ hq)
  have mA : ∀ b, b ∈ mines fA → (true, b) ∈ fO := fun b hb => mem_mines.mp (pA.mem_iff.mp hb)
  have apart : ∀ q, q ∈ fR → q.2 ∉ mines fA := fun q hq hb => by
    have h2 := mA _ hb
    obtain ⟨b, q2⟩ := q
    cases b with
    | true => exact nd3.2.2 q2 (mem_mines.mpr h2) q2 (mem_mines.mpr hq) rfl
    | false => exact l q2 (inR _ hq) (m q2 (inO _ h2))
  have hA0 : ∀ b, b ∈ mines fA → Z.H0 b = none := fun b hb => m b (inO _ (mA b hb))
  have core : ∀ G2 H2, ExtM (mines fA) k G1 H1 G2 H2 → Holds G2 H2 ∧ RepS K G2 H2 σ (clear os ρ) fR ∧ (∀ a g, Z.G0.obj a = some g → G2.obj a = some g) ∧ (∀ a, Z.G0.obj a = none → G2.obj a ≠ none → Z.H0 a = none) ∧
      (∀ a o, Z.H0 a = some o → mv (Z.G0.obj a) = false → H2 a = some o) ∧ (∀ a, Z.H0 a ≠ none → H2 a ≠ none) ∧ Z.G0.n ≤ G2.n := fun G2 H2 x2 => by
    refine ⟨x2.hd, (rR.ext x1).mono x2.sub fun q hq o e ng => ?_, fun a g e => x2.sub a g (s1.sub a g e), fun a e z => ?_, fun a o e nm => ?_, fun a na => ?_, Nat.le_trans s1.lo x2.lo⟩
    · refine ⟨x2.keep _ o e (by rw [ng]; rfl) (apart q hq), ?_⟩
      cases z : G2.obj q.2 with
      | none => rfl
      | some g =>
        rcases x2.new _ ng (by rw [z]; exact fun z => nomatch z) with h | h
        · rw [e] at h; cases h
        · exact absurd h (apart q hq)
    · cases q : G1.obj a with
      | some g => exact s1.new a e (by rw [q]; exact fun z => nomatch z)
      | none =>
        rcases x2.new a q z with h | h
        · cases r : Z.H0 a with
          | none => rfl
          | some o => exact absurd h (s1.there a (by rw [r]; exact fun z => nomatch z))
        · exact hA0 a h
    · refine x2.keep a o (s1.keep a o e nm) ?_ fun h => by rw [hA0 a h] at e; cases e
      cases q : Z.G0.obj a with
      | none =>
        cases z : G1.obj a with
        | none => rfl
        | some g => have := s1.new a q (by rw [z]; exact fun z => nomatch z); rw [e] at this; cases this
      | some g => rw [s1.sub a g q, ← q]; exact nm
    · cases q : H1 a with
      | none => exact absurd q (s1.there a na)
      | some o =>
        cases z : mv (G1.obj a) with
        | false => rw [x2.keep a o q z fun h => na (hA0 a h)]; exact fun z => nomatch z
        | true =>
          cases y : G1.obj a with
          | none => rw [y] at z; cases z
          | some g => exact x2.hd.there (x2.sub a g y)
  refine ⟨G1, mergeA os ρ ts, fA, _, _, x1.hd, rA, pA.nodup_iff.mpr nd3.1, fun b hb ht => ?_, hl, by omega, hS, ?_, ?_⟩
  · have ht2 := mA b (mem_mines.mpr ht)
    rcases List.mem_append.mp (p3.mem_iff.mp hb) with h2 | h2
    · exact l b (inO _ h2) (m b (inO _ ht2))
    · obtain ⟨q, hq, e⟩ := List.mem_map.mp h2
      have e2 : q.2 = b := by have := congrArg Prod.snd e; exact this
      exact apart q (ff q hq) (by rw [e2]; exact mem_mines.mpr ht)
  · intro v t ρr fr fpr G2 H2 x2 rt rr ndr hq p lk2
    obtain ⟨hd2, rR2, c1, c2, c3, c4, c5⟩ := core G2 H2 x2
    obtain ⟨fp2, fo, r2, sb, p4⟩ := back_ok a rr rR2 (ownOk_nodup os ρ own) fun i hi => ⟨look_clear_own os ρ i hi, by
      obtain ⟨t, e, _⟩ := ownOk_mine os ρ i own hi
      rw [clear_len]; exact look_lt e⟩
    have h2 := x2.hi
    have sb2 : (fr ++ fo).Sublist (fr ++ fpr) := List.Sublist.append (List.Sublist.refl _) sb
    have perm : (fr ++ fp2).Perm ((fr ++ fo) ++ fR) := by
      rw [List.append_assoc]; exact List.Perm.append_left fr p4
    have nod : (mines (fr ++ fp2)).Nodup := by
      refine (perm_mines perm).nodup_iff.mpr ?_
      rw [mines_app]
      refine List.nodup_append.mpr ⟨?_, nd3.2.1, fun b hb b2 hb2 e => ?_⟩
      · unfold mines at ndr ⊢
        exact ((sb2.filter _).map _).nodup ndr
      · subst e
        rcases (hq _ (sb2.subset (mem_mines.mp hb))).2 with h | h
        · exact apart _ (mem_mines.mp hb2) (mem_mines.mpr h)
        · exact repS_there (rR.ext x1) _ (mem_mines.mp hb2) h
    have tr : ∀ b, (true, b) ∈ fr ++ fp2 → Z.H0 b = none := fun b hb => by
      rcases List.mem_append.mp (perm.mem_iff.mp hb) with h | h
      · rcases (hq _ (sb2.subset h)).2 with h | h
        · exact hA0 b (mem_mines.mpr h)
        · cases r : Z.H0 b with
          | none => rfl
          | some o => exact absurd h (s1.there b (by rw [r]; exact fun z => nomatch z))
      · exact m b (inR _ h)
    have fl : ∀ b, (false, b) ∈ fr ++ fp2 → Z.H0 b ≠ none := fun b hb => by
      rcases List.mem_append.mp (perm.mem_iff.mp hb) with h | h
      · have := (hq _ (sb2.subset h)).1; cases this
      · exact l b (inR _ h)
    refine kk v t _ G2 H2 ⟨⟨hd2, ⟨fp2, r2, ?_, fun b hb => tr b (List.mem_append_right _ hb), fun b hb => fl b (List.mem_append_right _ hb)⟩, c1, c2, c3, c4, c5, fun j u w e1 e2 e3 => ?_⟩, fp2, fr, r2, rt, nod, tr, fl⟩ (by omega) lk2 p
    · rw [mines_app] at nod; exact (List.nodup_append.mp nod).2.1
    · by_cases hj : some j ∈ os
      · obtain ⟨t9, e9, m9⟩ := ownOk_mine os ρ j own hj
        exact s.pin j u t9 e1 e9 m9
      · rw [look_back_ne os _ _ j hj] at e2
        exact s.pin j u w e1 (look_clear_sub os ρ j e2) e3
  · intro C dx fs vs' G2 H2 x2 hx rd hr
    obtain ⟨hd2, rR2, c1, c2, c3, c4, c5⟩ := core G2 H2 x2
    have h2 := x2.hi
    refine kx C dx fs vs' _ G2 H2 ⟨hd2, ⟨fR, rR2, nd3.2.1, fun b hb => m b (inR _ hb), fun b hb => l b (inR _ hb)⟩, c1, c2, c3, c4, c5, fun j u w e1 e2 e3 => s.pin j u w e1 (look_clear_sub os ρ j e2) e3⟩ (by omega) hx rd hr
/-- the name x stands for a def that keeps the promise S -/
structure FnM (P : Program) (w : World) (K : PySem.W.Frag) (mg : Str → Option Value) (base : Heap) (x : Str) (k n c : Nat) (S : SpS) : Prop where
  ex : ∃ f fd ps, FnOk P w K mg base (L2.CX P w) k f fd ps (spM K n c S) ∧ mg x = some (.ref f) ∧ PySem.W.keepIn K (.ref f) = true ∧ Binds K fd ps []
section
variable {X : Cx} {e : Expr} {es : List Expr} {pos : Pos} {np : Np} {c n k k' ca : Nat} {wa : TWA} {os : List (Option Nat)} {S : SpS} {x : Str} {p : Pos}
theorem wm_call (F : FnM X.prog X.w X.K X.mg X.base x k n c S) (tk : Takes X np.wx) (hr : Room k' X.A) (hk : k ≤ k') (hg : Gl X x) (ha : WAm X ca (e :: es) os wa) (hdb : (x == ("__debug__" : Str)) = false := by decide) (he : starEach (e :: es) X.env = (false, eval e X.env) :: starEach es X.env := by rfl) (hpl : (backTo pos (starEach es X.env)).any (·.1) = false := by rfl) :
    WM X np (ca + c) (.Call (.Name x p) (e :: es) [] pos) (mCall os n S wa) :=
  let ⟨_, _, _, ok, hm, kp, b⟩ := F.ex
  PE.imp (pe_callS ok (hr.mono hk) hg hm kp b (fun σ => passAt tk σ) ha hdb he hpl) fun _ _ _ h => impCallM h
end
theorem FnM.of {P : Program} {w : World} {K : PySem.W.Frag} {mg : Str → Option Value} {base : Heap} {x q : Str} {st : Stmt} {N ps : List Str} {k n c c' : Nat} {S : SpS} {W : TSW} (A : At K mg x q st) (Sc : FnScope N ps (defScope st))
    (hb : ∀ (kV doc pm : Value) (an : Option Addr) (cdv ct : Value) (us : List Value), us.length = ps.length → bindArgs (PySem.W.fnOf q q (defArgs st) (defBody st) (defScope st) .none kV doc pm an cdv ct) ⟨us, []⟩ = pure (ps.zip us)) (hn : n = ps.length)
    (hbody : ∀ (f : Addr) (cdv : Value) (A : Around) (outer : List Env) (s : Shared) (H : Hp) (E : XK), Room k (A.deeper (envOfC q (defScope st) s.heap.objs.size f cdv)) → Takes (cxOf (L2.CX P w) P w K mg base N q (defScope st) f cdv A outer s H E) (fun cls d _ H' => E cls d H') →
      WSs (cxOf (L2.CX P w) P w K mg base N q (defScope st) f cdv A outer s H E) ⟨n, fun cls d _ H' => E cls d H'⟩ c (defBody st) W)
    (hs : ∀ ts Q R, ts.length = n → S ts Q R → W (endM ts Q R) (rho N.length ts)) : FnM P w K mg base x (k + 1) n c S := by
  obtain ⟨f, fd, F, hm⟩ := A
  exact ⟨f, fd, ps, def_okM F Sc hn (hbody f) hs, hm, F.kp, F.bindsN hb⟩
end TL
set_option Elab.async false
set_option linter.all false
set_option maxRecDepth 100000
set_option maxHeartbeats 1000000
/-! TL24: statements over such calls; instances are made. -/
namespace TL
open PySem PySem.Spec PyProof.Rows L2
section
variable {X : Cx} {e o : Expr} {es : List Expr} {pos pos' : Pos} {np : Np} {c ca cb : Nat} {w : TW} {wm : TWM} {ws : TWs}
/-- a new thing, or data -/
def mMk (w : TW) : TWM := fun ρ P _ => w ρ fun t => P t ρ
theorem wm_mk (h : WMk X c e w) : WM X np c e (mMk w) := PE.imp h fun σ H Q ⟨Z, G, ρ, P, R, hZ, s, hn, hw, kk, kx⟩ => by
  obtain ⟨fp, r, nd, m, l⟩ := s.rep
  exact ⟨G, ρ, fp, _, s.hd, r, hn, hw, fun v t f G' H' x rt fr lk p lk2 => kk v t ρ G' H' (Res.ofMk s x rt fr) x.hi lk p⟩
theorem wm_we (h : WE X c e w) : WM X np c e (mMk (mD w)) := wm_mk (wk_we h)
/-- a slot is handed on -/
def mTake (i : Nat) : TWM := fun ρ P _ => match look ρ i with
  | some t => P t (ρ.set i none)
  | none => False
theorem wm_take {i : Nat} (h : PE X e (tVar i)) : WM X np 0 e (mTake i) := PE.imp h fun σ H Q ⟨Z, G, ρ, P, R, hZ, s, hn, hw, kk, kx⟩ => by
  unfold mTake at hw
  cases q : look ρ i with
  | none => rw [q] at hw; exact hw.elim
  | some t =>
    rw [q] at hw
    obtain ⟨v, e1, r⟩ := Res.take s q
    exact ⟨v, e1, fun lk => kk v t _ G H r (Nat.le_add_right _ _) lk hw⟩
/-- the result stands still from now on -/
def mFrz (wm : TWM) : TWM := fun ρ P R => wm ρ (fun t ρ' => optP t.frz fun d => P (.fr d) ρ') R
theorem wm_frz (h : WM X np c e wm) : WM X np c e (mFrz wm) := PE.imp h fun σ H Q ⟨Z, G, ρ, P, R, hZ, s, hn, hw, kk, kx⟩ =>
  ⟨Z, G, ρ, _, R, hZ, s, hn, hw, fun v t ρ' G' H' r m lk p lk2 => by
    obtain ⟨d, hd, p⟩ := optP_ok p
    obtain ⟨G2, r2, en⟩ := r.frz hd
    exact kk v _ ρ' G2 H' r2 (by rw [en]; exact m) lk p, kx⟩
/-- name = e -/
def sSetM (n i : Nat) (wm : TWM) : TSW := fun E ρ => wm ρ (fun t ρ' => i < ρ'.length ∧ (n ≤ i ∨ t.mine = false) ∧ E.nx (ρ'.set i (some t))) E.ex
theorem ws_setM {i : Nat} {x : Str} (hN : X.N.Nodup) (hi : X.N[i]? = some x) (hx : Loc X.env.scope x) (he : WM X np c e wm) (hs : swapsWith e (some (.Name x pos')) pos.line X.env = pure false := by rfl) (hf : X.fn x = true ∨ X.env.scope.names.lookup x = some .local := by first | exact .inl rfl | exact .inr rfl | assumption) :
    WS X np c (.Assign [.Name x pos'] e pos) (sSetM np.n i wm) := PS.imp (ps_set hN hi hx he hs hf) fun D σ H ⟨Z, G, ρ, E, hZ, s, hn, hw, g⟩ =>
  ⟨Z, G, ρ, _, _, hZ, s, hn, hw, fun v t ρ' G' H' r m lk ⟨p1, p2, p3⟩ => g.nx _ _ G' H' (r.set p1 (by rw [hZ]; exact p2)) m p3, fun C dx fs vs ρ' G' H' s' m hx rd q => g.ex C dx fs vs σ ρ' G' H' s' m hx rd q⟩
def sRetM (wm : TWM) : TSW := fun E ρ => wm ρ E.rt E.ex
theorem ws_retM (he : WM X np c e wm) : WS X np c (.Return (some e) pos) (sRetM wm) := PS.imp (ps_ret he) fun D σ H ⟨Z, G, ρ, E, hZ, s, hn, hw, g⟩ =>
  ⟨Z, G, ρ, _, _, hZ, s, hn, hw, fun v t ρ' G' H' r m lk p => g.rt v t σ ρ' G' H' r m p, fun C dx fs vs ρ' G' H' s' m hx rd q => g.ex C dx fs vs σ ρ' G' H' s' m hx rd q⟩
def sDropM (wm : TWM) : TSW := fun E ρ => wm ρ (fun _ ρ' => E.nx ρ') E.ex
theorem ws_exprM (he : WM X np c e wm) (hs : swapsWith e none pos.line X.env = pure false := by rfl) : WS X np c (.Expr e pos) (sDropM wm) := PS.imp (ps_expr he hs) fun D σ H ⟨Z, G, ρ, E, hZ, s, hn, hw, g⟩ =>
  ⟨Z, G, ρ, _, _, hZ, s, hn, hw, fun v t ρ' G' H' r m lk p => g.nx σ ρ' G' H' r.st m p, fun C dx fs vs ρ' G' H' s' m hx rd q => g.ex C dx fs vs σ ρ' G' H' s' m hx rd q⟩
/-! ### instances -/
/-- the class x is made by its __init__, which keeps S -/
structure MkM (P : Program) (w : World) (K : PySem.W.Frag) (mg : Str → Option Value) (base : Heap) (x : Str) (C : Addr) (k n c : Nat) (S : SpS) : Prop where
  ex : ∃ f fd ps, Mk K C f ∧ FnOk P w K mg base (L2.CX P w) k f fd ps (spM K n c S) ∧ mg x = some (.ref C) ∧ Binds K fd ps []
def mMake (C : Addr) (n : Nat) (S : SpS) (ws : TWs) : TWM := fun ρ P _ => ws ρ fun ts => ts.length + 1 = n ∧ S (.ins true C [] :: T.lends ts) (fun t ρr => t = .fr .non ∧ match ρr with
  | some u :: _ => P u ρ
  | _ => False) fun _ _ => False
theorem make_core {K : PySem.W.Frag} {C : Addr} {k n : Nat} {S : SpS} {σ : L2.St} {H : Hp} {Q : VK} {E : XK} {Z : Ctx} {G : Gh} {ρ : Rho} {P : T → Rho → Prop} (s : StOk K Z G H σ ρ) (hn : G.n + (c + k) ≤ LIM)
    (kk : ∀ v t ρ' G' H', Res K Z G' H' σ ρ' v t → G'.n ≤ G.n + (c + k) → LenOk K H' → P t ρ' → Q v H') {vs : List V} {ts : List T} {f : Fps} {G1 : Gh} {H1 : Hp} (x1 : Ext c G H G1 H1) (r1 : RepTs K G1 H1 vs ts f)
    (hl : ts.length + 1 = n) (hS : S (.ins true C [] :: T.lends ts) (fun t ρr => t = .fr .non ∧ match ρr with
      | some u :: _ => P u ρ
      | _ => False) fun _ _ => False) (x dx : Addr) (hx : H1 x = none) (hdx : H1 dx = none) (hne : dx ≠ x) : spM K n k S (.ref x :: (vs ++ [])) (upd (upd H1 dx (.own x)) x (.ins C dx [])) (fun v H2 => v = .non ∧ (LenOk K H2 → Q (.ref x) H2)) E := by
  have h1 := x1.hi
  have o1 := Ext.own x1.hd hdx (.own x)
  have hx2 : upd H1 dx (.own x) x = none := by rw [upd_ne (Ne.symm hne)]; exact hx
  have o2 := Ext.own o1.hd hx2 (.ins C dx [])
  have o12 : Ext 0 G1 H1 G1 (upd (upd H1 dx (.own x)) x (.ins C dx [])) := (o1.trans o2).more (by omega)
  have gx := x1.hd.free hx
  have gdx := x1.hd.free hdx
  have ri : RepT K G1 (upd (upd H1 dx (.own x)) x (.ins C dx [])) (.ref x) (.ins true C []) ((true, x) :: (true, dx) :: []) := .ins (vs := []) upd_same gx (by rw [upd_ne hne, upd_same]) gdx .nil
  rw [List.append_nil]
  have there1 := repTs_there r1
  have nun : ∀ b, (true, b) ∈ unm f → False := fun b hb => by have := unm_lent f _ hb; cases this
  have hm : mines (((true, x) :: (true, dx) :: []) ++ unm f) = [x, dx] := by rw [mines_app, mines_unm]; rfl
  refine ⟨G1, .ins true C [] :: T.lends ts, ((true, x) :: (true, dx) :: []) ++ unm f, _, _, o12.hd, .cons ri (r1.lend.ext o12), ?_, fun b hb ht => ?_, by rw [List.length_cons, lends_len]; exact hl, by omega, hS, fun v t ρr fr fpr G3 H3 x3 rt rr ndr hq p => ?_, fun C' dx' fs vs' G3 H3 x3 hxd rd q => q.elim⟩
  · rw [hm]
    exact List.nodup_cons.mpr ⟨(fun z => hne (List.mem_singleton.mp z).symm), List.nodup_cons.mpr ⟨(fun z => nomatch z), List.nodup_nil⟩⟩
  · have hb2 : (false, b) ∈ unm f := by
      rcases List.mem_append.mp hb with z | z
      · rcases List.mem_cons.mp z with z | z
        · cases z
        · rcases List.mem_cons.mp z with z | z
          · cases z
          · cases z
      · exact z
    obtain ⟨q, hq, e⟩ := List.mem_map.mp hb2
    have e2 : q.2 = b := congrArg Prod.snd e
    have th := there1 q hq
    rw [e2] at th
    rcases List.mem_append.mp ht with z | z
    · rcases List.mem_cons.mp z with z | z
      · cases z; exact th hx
      · rcases List.mem_cons.mp z with z | z
        · cases z; exact th hdx
        · cases z
    · exact nun b z
  · obtain ⟨rfl, p⟩ := p
    cases rr with
    | no _ => exact p.elim
    | so ru rr2 =>
      rename_i u ρ2 f3 g3
      have nonA : ∀ a, H1 a ≠ none → a ∉ mines (((true, x) :: (true, dx) :: []) ++ unm f) := fun a na ha => by
        rw [hm] at ha
        rcases List.mem_cons.mp ha with z | z
        · subst z; exact na hx
        · have := List.mem_singleton.mp z; subst this; exact na hdx
      have x13 : Ext k G1 H1 G3 H3 := ⟨x3.hd, x3.sub, fun a e z => by
        rcases x3.new a e z with h | h
        · exact o12.back_none h
        · rw [hm] at h
          rcases List.mem_cons.mp h with z | z
          · subst z; exact hx
          · have := List.mem_singleton.mp z; subst this; exact hdx, fun a o e ng => x3.keep a o (o12.keep a o e ng) ng (nonA a (by rw [e]; exact fun z => nomatch z)), x3.lo, x3.hi⟩
      have hv : v = .non := by cases rt with | fr rd => cases rd; rfl
      refine ⟨hv, fun lk => kk (.ref x) u ρ G3 H3 (Res.ofMk s (x1.trans x13) ru ⟨?_, fun q hq3 => ?_⟩) (x1.trans x13).hi lk p⟩
      · rw [mines_app, mines_app] at ndr
        exact (List.nodup_append.mp (List.nodup_append.mp ndr).2.1).1
      · obtain ⟨h1, h2⟩ := hq q (List.mem_append_right _ (List.mem_append_left _ hq3))
        refine ⟨h1, x1.back_none ?_⟩
        rcases h2 with h2 | h2
        · rcases List.mem_append.mp h2 with z | z
          · rcases List.mem_cons.mp z with z | z
            · rw [z]; exact hx
            · rcases List.mem_cons.mp z with z | z
              · rw [z]; exact hdx
              · cases z
          · have := unm_lent f _ z
            rw [h1] at this; cases this
        · exact o12.back_none h2
theorem impMake {K : PySem.W.Frag} {C : Addr} {k n : Nat} {S : SpS} {σ : L2.St} {H : Hp} {Q : VK} {E : XK} (h : liftM K np (c + k) (mMake C n S ws) σ H Q) : tMake C (spM K n k S) [] E (liftA K c ws) σ H fun v H1 => LenOk K H1 → Q v H1 := by
  obtain ⟨Z, G, ρ, P, R, hZ, s, hn, hw, kk, kx⟩ := h
  obtain ⟨fp, r, nd, m, l⟩ := s.rep
  exact ⟨G, ρ, fp, _, s.hd, r, by omega, hw, fun vs ts f G1 H1 x1 r1 f1 lk1 ⟨hl, hS⟩ x dx hx hdx hne => make_core s hn kk x1 r1 hl hS x dx hx hdx hne⟩
theorem wm_make {C : Addr} {k k' n : Nat} {S : SpS} {x : Str} {p : Pos} (F : MkM X.prog X.w X.K X.mg X.base x C k n cb S) (hr : Room k' X.A) (hk : k + 1 ≤ k') (hg : Gl X x) (ha : WA X c (e :: es) ws) (hdb : (x == ("__debug__" : Str)) = false := by decide) (he : starEach (e :: es) X.env = (false, eval e X.env) :: starEach es X.env := by rfl) (hpl : (backTo pos (starEach es X.env)).any (·.1) = false := by rfl) :
    WM X np (c + cb) (.Call (.Name x p) (e :: es) [] pos) (mMake C n S ws) :=
  let ⟨_, _, _, M, ok, hm, b⟩ := F.ex
  PE.imp (pe_make M ok (hr.mono hk) hg hm b .nil (passes_call (E := fun _ _ _ => False) LamX.takes0 fun _ _ _ _ h => h) ha hdb he hpl) fun _ _ _ h => impMake h
theorem wm_make0 {C : Addr} {k k' n : Nat} {S : SpS} {x : Str} {p : Pos} (F : MkM X.prog X.w X.K X.mg X.base x C k n cb S) (hr : Room k' X.A) (hk : k + 1 ≤ k') (hg : Gl X x) (hdb : (x == ("__debug__" : Str)) = false := by decide) :
    WM X np (0 + cb) (.Call (.Name x p) [] [] pos) (mMake C n S wNil) :=
  let ⟨_, _, _, M, ok, hm, b⟩ := F.ex
  PE.imp (pe_make0 M ok (hr.mono hk) hg hm b .nil (passes_call (E := fun _ _ _ => False) LamX.takes0 fun _ _ _ _ h => h) hdb) fun σ H Q h => by
    obtain ⟨Z, G, ρ, P, R, hZ, s, hn, hw, kk, kx⟩ := h
    exact fun x dx hx hdx hne => make_core s hn kk (Ext.refl s.hd) .nil hw.1 hw.2 x dx hx hdx hne
end
end TL
set_option Elab.async false
set_option linter.all false
set_option maxRecDepth 100000
set_option maxHeartbeats 1000000
/-! TL25: attributes, texts. -/
namespace TL
open PySem PySem.Spec PyProof.Rows L2
/-! ### texts as lists of codes -/
def splitC (c : Nat) : List Nat → List (List Nat)
  | [] => [[]]
  | d :: l => if d = c then [] :: splitC c l else match splitC c l with
    | p :: ps => (d :: p) :: ps
    | [] => [[d]]
theorem splitC_ne (c : Nat) : ∀ l, splitC c l ≠ []
  | [] => fun h => nomatch h
  | d :: l => by
    unfold splitC
    by_cases e : d = c
    · rw [if_pos e]; exact fun h => nomatch h
    · rw [if_neg e]; cases splitC c l <;> exact fun h => nomatch h
theorem splitC_free (c : Nat) : ∀ l, ∀ p ∈ splitC c l, c ∉ p
  | [], p, h => by simp [splitC] at h; subst h; simp
  | d :: l, p, h => by
    unfold splitC at h
    by_cases e : d = c
    · rw [if_pos e] at h
      rcases List.mem_cons.mp h with rfl | h
      · simp
      · exact splitC_free c l p h
    · rw [if_neg e] at h
      have ih := splitC_free c l
      cases q : splitC c l with
      | nil => exact absurd q (splitC_ne c l)
      | cons p1 ps =>
        rw [q] at h ih
        rcases List.mem_cons.mp h with rfl | h
        · simp only [List.mem_cons, not_or]
          exact ⟨fun z => e z.symm, ih p1 (List.mem_cons_self ..)⟩
        · exact ih p (List.mem_cons_of_mem _ h)
/-- parts without the sign, joined by it, are its parts -/
theorem splitC_join (c : Nat) : ∀ (ps : List (List Nat)), ps ≠ [] → (∀ p ∈ ps, c ∉ p) → splitC c (joinL [c] ps) = ps
  | [], h, _ => absurd rfl h
  | [x], hn, h => by
    clear hn
    have hx := h x (List.mem_cons_self ..)
    show splitC c x = [x]
    clear h
    induction x with
    | nil => rfl
    | cons d l ih =>
      simp only [List.mem_cons, not_or] at hx
      unfold splitC
      rw [if_neg (fun z => hx.1 z.symm), ih hx.2]
  | x :: y :: r, hn, h => by
    clear hn
    have ih := splitC_join c (y :: r) (fun z => nomatch z) fun p hp => h p (List.mem_cons_of_mem _ hp)
    have hx := h x (List.mem_cons_self ..)
    show splitC c (x ++ ([c] ++ joinL [c] (y :: r))) = x :: y :: r
    clear h
    have hne : (y :: r) ≠ [] := fun z => nomatch z
    induction x with
    | nil =>
      show splitC c (c :: joinL [c] (y :: r)) = _
      unfold splitC
      rw [if_pos rfl, ih]
    | cons d l ih2 =>
      simp only [List.mem_cons, not_or] at hx
      show splitC c (d :: (l ++ ([c] ++ joinL [c] (y :: r)))) = _
      unfold splitC
      rw [if_neg (fun z => hx.1 z.symm), ih2 hx.2]
theorem tl_split (x : Str) (c : Nat) : (Txt.split x ⟨#[c]⟩).map tl = splitC c (tl x) := by
  have h1 := StrLaws.join_split x ⟨#[c]⟩
  have h2 := tl_join ⟨#[c]⟩ (Txt.split x ⟨#[c]⟩)
  rw [h1] at h2
  rw [h2]
  refine (splitC_join c _ ?_ fun p hp => ?_).symm
  · have := split_pos x ⟨#[c]⟩
    intro z
    have : ((Txt.split x ⟨#[c]⟩).map tl).length = 0 := by rw [z]; rfl
    rw [List.length_map] at this
    omega
  · obtain ⟨q, hq, rfl⟩ := List.mem_map.mp hp
    exact StrLaws.split_free x c q hq
theorem splitC_mem (c : Nat) : ∀ l, ∀ p ∈ splitC c l, (∀ d ∈ p, d ∈ l) ∧ p.length ≤ l.length
  | [], p, h => by simp [splitC] at h; subst h; simp
  | d :: l, p, h => by
    unfold splitC at h
    have ih := splitC_mem c l
    by_cases e : d = c
    · rw [if_pos e] at h
      rcases List.mem_cons.mp h with rfl | h
      · simp
      · obtain ⟨h1, h2⟩ := ih p h
        exact ⟨fun q hq => List.mem_cons_of_mem _ (h1 q hq), by rw [List.length_cons]; omega⟩
    · rw [if_neg e] at h
      cases q : splitC c l with
      | nil => exact absurd q (splitC_ne c l)
      | cons p1 ps =>
        rw [q] at h ih
        rcases List.mem_cons.mp h with rfl | h
        · obtain ⟨h1, h2⟩ := ih p1 (List.mem_cons_self ..)
          refine ⟨fun q hq => ?_, by simp only [List.length_cons]; omega⟩
          rcases List.mem_cons.mp hq with rfl | hq
          · exact List.mem_cons_self ..
          · exact List.mem_cons_of_mem _ (h1 q hq)
        · obtain ⟨h1, h2⟩ := ih p (List.mem_cons_of_mem _ h)
          exact ⟨fun q hq => List.mem_cons_of_mem _ (h1 q hq), by rw [List.length_cons]; omega⟩
theorem joinL_mem (s : List Nat) : ∀ (ps : List (List Nat)), ∀ d ∈ joinL s ps, d ∈ s ∨ ∃ p ∈ ps, d ∈ p
  | [], d, h => by simp [joinL] at h
  | [x], d, h => .inr ⟨x, List.mem_cons_self .., h⟩
  | x :: y :: r, d, h => by
    have h : d ∈ x ++ (s ++ joinL s (y :: r)) := h
    rcases List.mem_append.mp h with h | h
    · exact .inr ⟨x, List.mem_cons_self .., h⟩
    · rcases List.mem_append.mp h with h | h
      · exact .inl h
      · rcases joinL_mem s (y :: r) d h with h | ⟨p, hp, h⟩
        · exact .inl h
        · exact .inr ⟨p, List.mem_cons_of_mem _ hp, h⟩
theorem joinL_len (s : List Nat) : ∀ (ps : List (List Nat)), (joinL s ps).length ≤ (ps.map (·.length)).sum + ps.length * s.length
  | [] => by simp [joinL]
  | [x] => by simp [joinL]
  | x :: y :: r => by
    have ih := joinL_len s (y :: r)
    show (x ++ (s ++ joinL s (y :: r))).length ≤ _
    simp only [List.length_append, List.map_cons, List.sum_cons, List.length_cons, Nat.succ_mul] at ih ⊢
    omega
def startsC (l p : List Nat) : Bool := decide (p.length ≤ l.length) && (l.take p.length == p)
theorem starts_eq (a b : Str) : Txt.startswith a b = startsC (tl a) (tl b) := by
  unfold Txt.startswith startsC
  rw [StrLaws.subAt_eq, Nat.zero_add]
  rfl
section
variable {K : PySem.W.Frag} {G : Gh} {H : Hp}
def strsD : List D → Option (List (List Nat))
  | [] => some []
  | .str l :: ds => (strsD ds).map (l :: ·)
  | _ :: _ => none
theorem strsD_ok : ∀ {vs : List V} {ds : List D} {ls : List (List Nat)}, RepDs K G vs ds → strsD ds = some ls → ∃ ys : List Str, vs = ys.map V.str ∧ ys.map tl = ls ∧ ∀ l ∈ ls, ∀ c ∈ l, c < 0x110000
  | _, [], ls, r, h => by cases r; cases h; exact ⟨[], rfl, rfl, fun _ z => nomatch z⟩
  | _, .str l :: ds, ls, .cons r t, h => by
    unfold strsD at h
    obtain ⟨ls', h1, rfl⟩ := map_some h
    obtain ⟨ys, e1, e2, e3⟩ := strsD_ok t h1
    obtain ⟨x, rfl, hx, hc, hz⟩ := r.str'
    refine ⟨x :: ys, by rw [e1]; rfl, by simp [hx, e2], fun l2 hl2 => ?_⟩
    rcases List.mem_cons.mp hl2 with rfl | hl2
    · exact hc
    · exact e3 l2 hl2
  | _, .non :: _, _, _, h => nomatch h
  | _, .bl _ :: _, _, _, h => nomatch h
  | _, .int _ :: _, _, _, h => nomatch h
  | _, .lst _ :: _, _, _, h => nomatch h
  | _, .tup _ :: _, _, _, h => nomatch h
  | _, .dk _ :: _, _, _, h => nomatch h
  | _, .dt _ :: _, _, _, h => nomatch h
  | _, .ins _ _ :: _, _, _, h => nomatch h
  | _, .rng :: _, _, _, h => nomatch h
  | _, .scr _ :: _, _, _, h => nomatch h
theorem strs_rep : ∀ {ys : List Str} {ls : List (List Nat)}, ys.map tl = ls → (∀ l ∈ ls, (∀ c ∈ l, c < 0x110000) ∧ l.length ≤ sizeLine) → RepDs K G (ys.map V.str) (ls.map D.str)
  | [], ls, h, _ => by subst h; exact .nil
  | y :: ys, ls, h, k => by
    subst h
    exact .cons (.str rfl (k _ (List.mem_cons_self ..)).1 (k _ (List.mem_cons_self ..)).2) (strs_rep rfl fun l hl => k l (List.mem_cons_of_mem _ hl))
def isSt : T → Prop
  | .fr (.str _) => True
  | _ => False
end
section
variable {X : Cx} {e o : Expr} {es : List Expr} {pos apos : Pos} {c ca cb : Nat} {w wa wb : TW}
/-- x.m(y) of a text -/
def wM1 (op : T → T → (T → Prop) → Prop) (wa wb : TW) : TW := fun ρ P => wa ρ fun x => isSt x ∧ wb ρ fun y => op x y P
theorem we_m1 {id : String} {name : Str} {r : V → List V → Hp → VK → Prop} {op : T → T → (T → Prop) → Prop} (lf : Leaf2 X.K (fun x y H Q => r x [y] H Q) op) (slot : Slot "str" name id) (ty : typeOf (.builtin id) = pure (.type "method_descriptor")) (rule : MtR X id r) (ho : WE X ca o wa) (he : WE X cb e wb)
    (hs : starEach [e] X.env = [(false, eval e X.env)] := by rfl) (hbase : attributeBase o name X.env (eval o X.env) = eval o X.env := by rfl) (hline : (apos.endLine == pos.line) = true := by rfl) :
    WE X (ca + cb) (.Call (.Attribute o name apos) [e] [] pos) (wM1 op wa wb) := PE.imp (pe_m1 slot ty rule ho he hs hbase hline) fun σ H Q ⟨G, ρ, fp, P, hd, rs, hn, hw, k⟩ => by
  refine ⟨G, ρ, fp, _, hd, rs, by omega, hw, fun v t f G1 H1 x1 r1 f1 lk1 hw1 => ?_⟩
  have := x1.hi
  refine ⟨?_, G1, ρ, fp, _, x1.hd, rs.ext x1, by omega, hw1.2, fun v2 t2 g G2 H2 x2 r2 f2 lk2 hw2 => ?_⟩
  · have h := hw1.1
    unfold isSt at h
    split at h
    · obtain ⟨x, rfl, _⟩ := r1.d.1.str'; exact ⟨x, rfl⟩
    · exact h.elim
  · refine lf G2 H2 v v2 t t2 f g P _ x2.hd lk2 (r1.ext x2) r2 hw2 fun z tz fz G3 H3 x3 r3 f3 p3 => ?_
    have x := (x1.trans x2).trans x3
    exact fun lk => k z tz fz G3 H3 x r3 (fun q hq => (f3 q hq).elim (f1 q) (f2 q)) lk p3
def oSplit : T → T → (T → Prop) → Prop
  | .fr (.str l), .fr (.str [c]), P => l.length + 2 ≤ sizeLine ∧ P (.fr (.lst ((splitC c l).map D.str)))
  | _, _, _ => False
theorem str_mk (x : Str) (l : List Nat) (h : tl x = l) : x = ⟨l.toArray⟩ := by
  cases x with
  | mk a => cases a with | mk l' => cases h; rfl
theorem l_split {K : PySem.W.Frag} : Leaf2 K (fun x y H Q => ∃ a b, x = .str a ∧ [y] = [V.str b] ∧ (b.length == 0) = false ∧ a.length + 2 ≤ sizeLine ∧ rNewStrs (Txt.split a b) H Q) oSplit := fun G H x y tx ty fx fy P Q hd lk rx ry h k => by
  unfold oSplit at h
  split at h
  · next l c =>
    obtain ⟨a, rfl, ha, hc, hz⟩ := rx.d.1.str'
    obtain ⟨b, rfl, hb, _, _⟩ := ry.d.1.str'
    have hb2 := str_mk b [c] hb
    subst hb2
    have hal : a.length = l.length := by rw [← ha]; rfl
    refine ⟨a, _, rfl, rfl, rfl, by rw [hal]; exact h.1, fun p hp => ?_⟩
    have ow := Ext.alloc hd hp (.lst ((Txt.split a ⟨#[c]⟩).map V.str))
    refine k _ _ [] _ _ ow (.fr (.lst Gh.put_same ?_)) noFp2 h.2
    refine strs_rep (by rw [tl_split a c, ha]) fun p hp => ?_
    obtain ⟨h1, h2⟩ := splitC_mem c l p hp
    exact ⟨fun d hd => hc d (h1 d hd), Nat.le_trans h2 hz⟩
  · exact h.elim
def oStarts : T → T → (T → Prop) → Prop
  | .fr (.str l), .fr (.str p), P => P (.fr (.bl (startsC l p)))
  | _, _, _ => False
theorem l_starts {K : PySem.W.Frag} : Leaf2 K (fun x y H Q => ∃ a b, x = .str a ∧ [y] = [V.str b] ∧ Q (.bl (Txt.startswith a b)) H) oStarts := fun G H x y tx ty fx fy P Q hd lk rx ry h k => by
  unfold oStarts at h
  split at h
  · next l p =>
    obtain ⟨a, rfl, ha, _, _⟩ := rx.d.1.str'
    obtain ⟨b, rfl, hb, _, _⟩ := ry.d.1.str'
    refine ⟨a, b, rfl, rfl, k _ _ [] G H (Ext.refl hd) (.fr ?_) noFp2 h⟩
    rw [starts_eq, ha, hb]
    exact .bl _
  · exact h.elim
def oJoin : T → T → (T → Prop) → Prop
  | .fr (.str s), t, P => optP ((seqD t).bind strsD) fun ls => (ls.map (·.length)).sum + ls.length * s.length ≤ 16777216 ∧ P (.fr (.str (joinL s ls)))
  | _, _, _ => False
theorem l_join {K : PySem.W.Frag} : Leaf2 K (fun x y H Q => ∃ a p, ∃ ys : List Str, x = .str a ∧ [y] = [V.ref p] ∧ (SqL K H p (ys.map V.str) ∨ SqT K H p (ys.map V.str)) ∧
    (ys.map (·.length)).sum + ys.length * a.length ≤ 16777216 ∧ Q (.str (Txt.join a ys)) H) oJoin := fun G H x y tx ty fx fy P Q hd lk rx ry h k => by
  unfold oJoin at h
  split at h
  · next _ _ s =>
    obtain ⟨ls, h1, hb, hp⟩ := optP_ok h
    cases hs : seqD ty with
    | none => rw [hs] at h1; cases h1
    | some ds =>
      rw [hs] at h1
      have h1 : strsD ds = some ls := h1
      obtain ⟨a, rfl, ha, hc, hz⟩ := rx.d.1.str'
      obtain ⟨p, vs, l, rfl, hl, rd, _⟩ := seqD_ok hd ry hs
      obtain ⟨ys, rfl, hy, hyc⟩ := strsD_ok rd h1
      have e1 : ys.map (·.length) = ls.map (·.length) := by rw [← hy, List.map_map]; rfl
      have e2 : ys.length = ls.length := by rw [← hy, List.length_map]
      have e3 : a.length = s.length := by rw [← ha]; rfl
      refine ⟨a, p, ys, rfl, rfl, by cases l with | true => exact .inl hl | false => exact .inr hl, by rw [e1, e2, e3]; exact hb, k _ _ [] G H (Ext.refl hd) (.fr (.str ?_ ?_ ?_)) noFp2 hp⟩
      · show tl (Builtin.Str.glued a ys) = _
        rw [StrLaws.glued_eq_join, tl_join, ha, hy]
      · intro d hd
        rcases joinL_mem s ls d hd with h | ⟨q, hq, h⟩
        · exact hc d h
        · exact hyc q hq d h
      · have := joinL_len s ls
        rw [sizeLine_eq]; omega
  · exact h.elim
/-- int(x) -/
def allDig (l : List Nat) : Bool := l.all fun c => decide (48 ≤ c) && decide (c ≤ 57)
def oIntV : T → (T → Prop) → Prop
  | .fr (.str l), P => allDig l = true ∧ l ≠ [] ∧ l.length ≤ 640 ∧ P (.fr (.int (NumText.digitsVal l : Nat)))
  | t, P => oInt t P
theorem l_intV {K : PySem.W.Frag} : LeafN K (fun xs H Q => ((∃ i, xs = [V.int i] ∧ Q (.int i) H) ∨ ∃ k, xs = [V.bl k] ∧ Q (.int (if k then 1 else 0)) H) ∨ ∃ a n, xs = [V.str a] ∧ PySem.intText? a = some n ∧ a.length ≤ 640 ∧ Q (.int n) H) (o1 oIntV) := leaf1 fun G H v t f P Q hd lk r hw k => by
  unfold oIntV at hw
  split at hw
  · next l =>
    obtain ⟨a, rfl, ha, _, _⟩ := r.d.1.str'
    refine .inr ⟨a, _, rfl, intText_digits (x := a) ?_ ?_ ?_, ?_, k _ _ [] G H (Ext.refl hd) (.fr ?_) noFp hw.2.2.2⟩
    · intro c hc
      have hc : c ∈ tl a := hc
      rw [ha] at hc
      have := List.all_eq_true.mp hw.1 c hc
      simpa using this
    · show tl a ≠ []; rw [ha]; exact hw.2.1
    · have : a.length = l.length := by rw [← ha]; rfl
      have h2 := hw.2.2.1
      omega
    · have : a.length = l.length := by rw [← ha]; rfl
      have h2 := hw.2.2.1
      omega
    · show RepD K G (.int ((NumText.digitsVal (tl a) : Nat) : Int)) _
      rw [ha]; exact .int _
  · refine .inl ?_
    unfold oInt at hw
    split at hw
    · next i _ => rw [r.d.1.int']; exact .inl ⟨i, rfl, k _ _ [] G H (Ext.refl hd) (.fr (.int _)) noFp hw⟩
    · next b _ => rw [r.d.1.bl']; exact .inr ⟨b, rfl, k _ _ [] G H (Ext.refl hd) (.fr (.int _)) noFp hw⟩
    · exact hw.elim
/-- e.f of an instance -/
def oFld (C : Addr) (f : Str) : T → (T → Prop) → Prop := fun t P => match t with
  | .fr (.ins C' fs) => C' = C ∧ optP (getK fs f) fun d => P (.fr d)
  | .ins _ C' fs => C' = C ∧ optP (getK fs f) P
  | _ => False
theorem we_fld {C : Addr} {f : Str} (h : WE X c e w) (cl : Cls X.K C) (na : NoAttr X.K C f) (hb : attributeBase e f X.env (eval e X.env) = eval e X.env := by rfl) : WE X c (.Attribute e f pos) (w1 (oFld C f) w) := PE.imp (pe_fld h hb) fun σ H Q ⟨G, ρ, fp, P, hd, rs, hn, hw, k⟩ => by
  refine ⟨G, ρ, fp, _, hd, rs, hn, hw, fun v t f1 G1 H1 x1 r1 s1 lk hw1 => ?_⟩
  unfold oFld at hw1
  split at hw1
  · next C' fs =>
    obtain ⟨rfl, hp⟩ := hw1
    obtain ⟨d, hd1, hp⟩ := optP_ok hp
    have rd := r1.d.1
    cases rd with
    | ins e1 rds =>
      rename_i a dx vs
      have ha : H1 a = some (.ins C' dx ((fs.map (·.1)).zip vs)) := by
        rcases x1.hd.ho _ _ e1 with h | ⟨ob, h, h2⟩
        · exact h
        · rcases h2 with ⟨_, z⟩ | ⟨_, z⟩ <;> cases z
      obtain ⟨n, j1, j2, _, _⟩ := idxK_get f fs d hd1
      obtain ⟨w2, w3, w4⟩ := rds.get j2
      exact ⟨a, C', dx, _, w2, rfl, ha, cl, na, lookup_idx fs vs f n w2 j1 w3, fun lk2 => k w2 _ [] G1 H1 x1 (.fr w4) noFp lk2 hp⟩
  · next m C' fs =>
    obtain ⟨rfl, hp⟩ := hw1
    obtain ⟨d, hd1, hp⟩ := optP_ok hp
    cases r1 with
    | ins ha ng hx nd rt =>
      rename_i a dx vs g
      obtain ⟨n, j1, j2, _, _⟩ := idxK_get f fs d hd1
      obtain ⟨w2, gg, w3, w4, w5⟩ := rt.get j2
      exact ⟨_, C', _, _, w2, rfl, ha, cl, na, lookup_idx fs _ f n w2 j1 w3, fun lk2 => k w2 _ gg G1 H1 x1 w4 (fun q hq => s1 q (List.mem_cons_of_mem _ (List.mem_cons_of_mem _ (w5 q hq)))) lk2 hp⟩
  · exact hw1.elim
end
end TL
set_option Elab.async false
set_option linter.all false
set_option maxRecDepth 100000
set_option maxHeartbeats 1000000
/-! TL26: comprehensions of new things; dicts; isinstance. -/
namespace TL
open PySem PySem.Spec PyProof.Rows L2
section
variable {X : Cx} {e : Expr} {pos : Pos} {np : Np} {c N ci ct ce : Nat} {wi : TWI} {wt : TB} {we : TW} {p : Pat}
def mLcG (C : List T → Prop) (vs : List Nat) (p : Pat) (wi : TWI) (wt : TB) (wo : TW) : TW := fun ρ P => wi ρ fun _ its => C its ∧ ∃ I : Nat → List T → Prop, I 0 [] ∧
  (∀ i t acc, its[i]? = some t → I i acc → match bindP p t (wipeR ρ vs) with
    | some ρ1 => wt ρ1 fun b => if b = true then wo ρ1 fun x => I (i + 1) (acc ++ [x]) else I (i + 1) acc
    | none => False) ∧ ∀ acc, I its.length acc → P (.lst true acc)
theorem coreLcM {K : PySem.W.Frag} {own : List (Str × Nat)} {σ : L2.St} {H : Hp} {Q : VK} {G : Gh} {ρ : Rho} {fp : Fps} {P : T → Prop} (hps : p.sl.all (fun i => (own.map (·.2)).contains i) = true) {C : List T → Prop} (hC : ∀ its : List T, its.length ≤ N → C its → its.length ≤ sizeLine) (hd : Holds G H) (rs : RepS K G H σ ρ fp) (hn : G.n + (ci + N * (ct + ce)) ≤ LIM) (hw : mLcG C (own.map (·.2)) p wi wt we ρ P)
    (k : ∀ v t f G' H', Ext (ci + N * (ct + ce)) G H G' H' → RepT K G' H' v t f → Fresh H f → P t → Q v H') : tLc (liftI K ci N wi) (patG K p) (liftT K ct wt) (liftMk K ce we) (own.map (·.2)) σ H Q := by
  refine ⟨G, ρ, fp, _, hd, rs, by omega, hw, fun J fl its f Gd Y G1 H1 x1 f1 ffl hl wk st hw1 => ?_⟩
  obtain ⟨hCi, I, i0, is, id⟩ := hw1
  have hz := hC its hl hCi
  intro D hD
  have hsl : ∀ i ∈ p.sl, i ∈ own.map (·.2) := fun i hi => by simpa using List.all_eq_true.mp hps i hi
  have hgD : G1.obj D = none := x1.hd.free hD
  have x0 := Ext.own x1.hd hD (.lst [])
  -- what holds between two turns
  have hx1 := x1.hi
  refine lc_it wk (fun i H2 => i ≤ its.length ∧ ∃ G2 acc vs fa, Ext (i * (ct + ce)) G1 H1 G2 H2 ∧ G2.obj D = none ∧ H2 D = some (.lst vs) ∧ RepTs K G2 H2 vs acc fa ∧ (Fresh H1 fa ∧ ∀ q ∈ fa, q.2 ≠ D) ∧ acc.length ≤ i ∧ I i acc) ?_ ?_ ?_ ?_
  · exact ⟨Nat.zero_le _, G1, [], [], [], x0.more (by omega), hgD, upd_same, .nil, ⟨fresh_nil, fun _ z => nomatch z⟩, Nat.le_refl _, i0⟩
  · rintro i H2 _ ⟨_, G2, acc, vs, fa, x2, hg2, h2, r2, ⟨fr2, nD2⟩, l2, inv⟩
    exact (st (fun _ => True) G2 H2 (fun _ _ => trivial) (x2.later _)).1
  · rintro i x H2 H3 hi ⟨_, G2, acc, vs, fa, x2, hg2, h2, r2, ⟨fr2, nD2⟩, l2, inv⟩ y
    obtain ⟨t, g, G3, et, x3, rt, sg⟩ := (st (fun _ => True) G2 H2 (fun _ _ => trivial) (x2.later _)).2 i x H3 y
    have h3 := x3.stay h2 hg2
    have step := is i t acc et inv
    cases hb : bindP p t (wipeR ρ (own.map (·.2))) with
    | none => rw [hb] at step; exact step.elim
    | some ρ1 =>
      rw [hb] at step
      have x13 := x2.trans x3
      obtain ⟨fpw, rw1, sw⟩ := (rs.ext (x1.trans x13)).wipe (own.map (·.2))
      refine bind_ok x3.hd p rt rw1 hb fun σ2 fp2 rs2 b2 => ⟨?_, ?_⟩
      · rw [b2.wp _ hsl]
        have : ∀ (l : List Nat) (τ : L2.St), L2.wipe (L2.wipe τ l) l = L2.wipe τ l := by
          intro l τ
          have gen : ∀ (m : List Nat), (∀ i ∈ m, i ∈ l) → L2.wipe (L2.wipe τ m) l = L2.wipe τ l := by
            intro m
            induction m with
            | nil => intro _; rfl
            | cons a m ih =>
              intro h
              show L2.wipe ((L2.wipe τ m).set a none) l = _
              rw [wipe_set l _ a none (h a (List.mem_cons_self ..)), ih fun i hi => h i (List.mem_cons_of_mem _ hi)]
          exact gen l fun _ z => z
        exact this _ _
      · have nb : (i + 1) * (ct + ce) ≤ N * (ct + ce) := Nat.mul_le_mul_right _ (by omega)
        have e1 : (i + 1) * (ct + ce) = i * (ct + ce) + (ct + ce) := Nat.succ_mul _ _
        have h13 := x13.hi
        refine ⟨G3, ρ1, fp2, _, x3.hd, rs2, by omega, step, fun b G4 H4 x4 lk4 p4 => ?_⟩
        have h4 := x4.stay h3.1 h3.2
        have hh4 := x4.hi
        cases b with
        | false =>
          have p4 := uF p4
          refine iteF ?_
          exact ⟨hi, G4, acc, vs, fa, x13.trans' x4 (by omega), h4.2, h4.1, (r2.ext x3).ext x4, ⟨fr2, nD2⟩, by omega, p4⟩
        | true =>
          have p4 := uT p4
          refine iteT ?_
          refine ⟨G4, ρ1, fp2, _, x4.hd, rs2.ext x4, by omega, p4, fun v t2 f2 G5 H5 x5 r5 fr5 lk5 p5 => ?_⟩
          have h5 := x5.stay h4.1 h4.2
          have x14 := x13.trans x4
          have nf5 : ∀ q ∈ f2, q.2 ≠ D := fun q hq e => by
            have := (fr5.2 q hq).2
            rw [e, h4.1] at this; cases this
          have r25 := ((r2.ext x3).ext x4).ext x5
          have rall := RepTs.snoc r5 r25
          have frall : Fresh H1 (fa ++ f2) := Fresh.app x14 (fun q hq => repTs_there ((r2.ext x3).ext x4) q hq) fr2 fr5
          have nDall : ∀ q ∈ fa ++ f2, q.2 ≠ D := fun q hq => (List.mem_append.mp hq).elim (nD2 q) (nf5 q)
          refine ⟨vs, h5.1, ?_, hi, G5, acc ++ [t2], vs ++ [v], fa ++ f2, ?_, h5.2, upd_same, rall.mono (fun _ _ e => e) (fun q hq o e ng => ⟨by rw [upd_ne (nDall q hq)]; exact e, ng⟩), ⟨frall, nDall⟩, ?_, p5⟩
          · rw [r2.length]; omega
          · exact (x14.trans' x5 (by omega)).chg hD h5.2 (fun o e => by rw [h5.1] at e; cases e; exact plain_lst) _
          · rw [List.length_append]; show acc.length + 1 ≤ i + 1; omega
  · rintro H2 ⟨_, G2, acc, vs, fa, x2, hg2, h2, r2, ⟨fr2, nD2⟩, l2, inv⟩
    have nb : its.length * (ct + ce) ≤ N * (ct + ce) := Nat.mul_le_mul_right _ hl
    refine k (.ref D) (.lst true acc) ((true, D) :: fa) G2 H2 (x1.trans' x2 (by omega)) (.lst h2 hg2 r2) ?_ (id acc inv)
    exact Fresh.cons ⟨fr2.1, fun q hq => ⟨(fr2.2 q hq).1, x1.back_none (fr2.2 q hq).2⟩⟩ (x1.back_none hD) nD2
theorem wk_lc {elt tg iter : Expr} {ifs : List Expr} {scope : Scope} {own : List (Str × Nat)} (hc : X.calm = true) (hN : X.N.Nodup) (hi : WI X ci N tg iter wi) (ok : BlkOk X.N X.env.scope scope own)
    (hg : ∀ (s : Shared) (H : Hp) (C : Addr) (cl : List (Str × Addr)) (fp : List Addr), PG (X.blk s H scope (compEnvC scope cl C X.env) fp) tg (patG X.K p)) (ht : ∀ (s : Shared) (H : Hp) (C : Addr) (cl : List (Str × Addr)) (fp : List Addr), WTs (X.blk s H scope (compEnvC scope cl C X.env) fp) ct ifs wt)
    (he : ∀ (s : Shared) (H : Hp) (C : Addr) (cl : List (Str × Addr)) (fp : List Addr), WMk (X.blk s H scope (compEnvC scope cl C X.env) fp) ce elt we) (hz : N ≤ sizeLine := by rw [sizeLine_eq]; decide) (hps : p.sl.all (fun i => (own.map (·.2)).contains i) = true := by rfl) (hs : ∀ x, foldedSetIterable iter X.env x = pure x := by intro _; rfl) :
    WMk X (ci + N * (ct + ce)) (.ListComp elt [⟨tg, iter, ifs, 0⟩] scope pos) (mLcG (fun _ => True) (own.map (·.2)) p wi wt we) := PE.imp (pe_lc (tt := liftT X.K ct wt) (te := liftMk X.K ce we) hc hN hi ok hg ht he hs) fun σ H Q ⟨G, ρ, fp, P, hd, rs, hn, hw, k⟩ =>
  coreLcM hps (fun its h _ => Nat.le_trans h hz) hd rs hn hw fun v t f G' H' x r fr p lk => k v t f G' H' x r fr lk p
theorem wk_lcR {elt tg iter : Expr} {ifs : List Expr} {scope : Scope} {own : List (Str × Nat)} (hc : X.calm = true) (hN : X.N.Nodup) (hi : WI X ci N tg iter wi) (ok : BlkOk X.N X.env.scope scope own)
    (hg : ∀ (s : Shared) (H : Hp) (C : Addr) (cl : List (Str × Addr)) (fp : List Addr), PG (X.blk s H scope (compEnvC scope cl C X.env) fp) tg (patG X.K p)) (ht : ∀ (s : Shared) (H : Hp) (C : Addr) (cl : List (Str × Addr)) (fp : List Addr), WTs (X.blk s H scope (compEnvC scope cl C X.env) fp) ct ifs wt)
    (he : ∀ (s : Shared) (H : Hp) (C : Addr) (cl : List (Str × Addr)) (fp : List Addr), WMk (X.blk s H scope (compEnvC scope cl C X.env) fp) ce elt we) (hps : p.sl.all (fun i => (own.map (·.2)).contains i) = true := by rfl) (hs : ∀ x, foldedSetIterable iter X.env x = pure x := by intro _; rfl) :
    WMk X (ci + N * (ct + ce)) (.ListComp elt [⟨tg, iter, ifs, 0⟩] scope pos) (mLcG (fun its => its.length ≤ sizeLine) (own.map (·.2)) p wi wt we) := PE.imp (pe_lc (tt := liftT X.K ct wt) (te := liftMk X.K ce we) hc hN hi ok hg ht he hs) fun σ H Q ⟨G, ρ, fp, P, hd, rs, hn, hw, k⟩ =>
  coreLcM hps (fun its _ h => h) hd rs hn hw fun v t f G' H' x r fr p lk => k v t f G' H' x r fr lk p
end
end TL
set_option Elab.async false
set_option linter.all false
set_option maxRecDepth 100000
set_option maxHeartbeats 1000000
/-! TL27: dicts are made; isinstance; index. -/
namespace TL
open PySem PySem.Spec PyProof.Rows L2
section
variable {K : PySem.W.Frag} {G G' : Gh} {H H' : Hp} {c : Nat}
open Classical in
/-- a new thing stands still from now on -/
theorem Ext.frz {v : V} {t : T} {f : Fps} {d : D} (x : Ext c G H G' H') (rt : RepT K G' H' v t f) (fr : Fresh H f) (h : t.frz = some d) : ∃ G2, Ext c G H G2 H' ∧ RepD K G2 v d := by
  have free := repT_free rt
  let G2 : Gh := ⟨fun b => if (true, b) ∈ f then (H' b).map .ho else G'.obj b, G'.n⟩
  have hin : ∀ a, (true, a) ∈ f → G2.obj a = (H' a).map .ho := fun a ha => if_pos ha
  have hout : ∀ a, (true, a) ∉ f → G2.obj a = G'.obj a := fun a ha => if_neg ha
  have sb : ∀ a g, G'.obj a = some g → G2.obj a = some g := fun a g e => by
    rw [hout a fun z => by have := free _ z; rw [e] at this; cases this]; exact e
  have hd : Holds G2 H' := by
    refine ⟨fun b u e => ?_, fun b e => ?_, fun b ns e => ?_, fun b q e => ?_⟩ <;> by_cases z : (true, b) ∈ f
    · rw [hin b z] at e
      obtain ⟨o, e1, e2⟩ := map_some e
      cases e2; exact .inl e1
    · rw [hout b z] at e; exact x.hd.ho b u e
    · rw [hin b z] at e
      obtain ⟨o, e1, e2⟩ := map_some e
      cases e2
    · rw [hout b z] at e; exact x.hd.rng b e
    · rw [hin b z] at e
      obtain ⟨o, e1, e2⟩ := map_some e
      cases e2
    · rw [hout b z] at e; exact x.hd.scr b ns e
    · rw [hin b z] at e
      obtain ⟨o, e1, e2⟩ := map_some e
      cases e2
    · rw [hout b z] at e; exact x.hd.tab b q e
  obtain ⟨rd, _⟩ := frz_ok sb rt h fun a o ma e => by rw [hin a ma, e]; rfl
  refine ⟨G2, ⟨hd, fun a g e => sb a g (x.sub a g e), fun a e z => ?_, x.keep, x.lo, x.hi⟩, rd⟩
  by_cases q : (true, a) ∈ f
  · exact (fr.2 _ q).2
  · rw [hout a q] at z; exact x.new a e z
def keyT : T → Option KY
  | .fr d => keyD d
  | _ => none
def pairK : T → Option (KY × T)
  | .tup [k, t] => (keyT k).map fun k => (k, t)
  | .fr (.tup [k, d]) => (keyD k).map fun k => (k, .fr d)
  | _ => none
def pairsK : List T → Option (List (KY × T))
  | [] => some []
  | t :: ts => match pairK t, pairsK ts with
    | some p, some ps => some (p :: ps)
    | _, _ => none
theorem pair_ok {v : V} {t : T} {f : Fps} {p : KY × T} (hd : Holds G H) (r : RepT K G H v t f) (e : pairK t = some p) : ∃ a w g, v = .ref a ∧ SqT K H a [kV (toK p.1), w] ∧ RepT K G H w p.2 g ∧ g = f := by
  unfold pairK at e
  split at e
  · next k t =>
    obtain ⟨k0, hk, rfl⟩ := map_some e
    cases r with
    | tup e1 rt =>
      rename_i a vs
      cases rt with
      | cons rk rt =>
        cases rt with
        | cons rx rt =>
          cases rt
          unfold keyT at hk
          split at hk
          · next d =>
            obtain ⟨rd, rfl⟩ := rk.d
            rw [keyD_ok rd hk] at e1
            rcases hd.ho _ _ e1 with h | ⟨ob, h, h2⟩
            · exact ⟨a, _, _, rfl, .inl (.inl h), rx, by simp⟩
            · rcases h2 with ⟨_, z⟩ | ⟨_, z⟩ <;> cases z
          · cases hk
  · next k d =>
    obtain ⟨k0, hk, rfl⟩ := map_some e
    obtain ⟨rd, rfl⟩ := r.d
    obtain ⟨a, vs, rfl, ha, _, rds⟩ := rd.tup' hd
    cases rds with
    | cons rk rds =>
      cases rds with
      | cons rx rds =>
        cases rds
        rw [keyD_ok rk hk] at ha
        exact ⟨a, _, [], rfl, .inl (.inl ha), .fr rx, rfl⟩
  · cases e
theorem pairs_ok (hd : Holds G H) : ∀ {vs : List V} {ts : List T} {f : Fps} {kvs : List (KY × T)}, RepTs K G H vs ts f → pairsK ts = some kvs → ∃ ps ws, vs = ps.map V.ref ∧ ws.length = kvs.length ∧ Paired (fun p kv => SqT K H p [kV kv.1, kv.2]) ps ((kvs.map (toK ·.1)).zip ws) ∧ RepTs K G H ws (kvs.map (·.2)) f
  | _, [], _, _, .nil, e => by cases e; exact ⟨[], [], rfl, rfl, .nil, .nil⟩
  | _, t :: ts, _, kvs, .cons r s, e => by
    unfold pairsK at e
    split at e
    · next p ps h1 h2 =>
      cases e
      obtain ⟨a, w, g, rfl, ha, rw', rfl⟩ := pair_ok hd r h1
      obtain ⟨as, ws, rfl, hl, hp, rs⟩ := pairs_ok hd s h2
      exact ⟨a :: as, w :: ws, rfl, by simp [hl], .cons ha hp, .cons rw' rs⟩
    · cases e
theorem RepTs.one1 {vs : List V} {t : T} {f : Fps} (r : RepTs K G H vs [t] f) : ∃ v, vs = [v] ∧ RepT K G H v t f := by
  cases r with
  | cons r rr => cases rr; exact ⟨_, rfl, by simpa using r⟩
theorem merge_nodup : ∀ (more kvs : List (Key × V)), ((kvs ++ more).map (·.1)).Nodup → mergeK kvs more = kvs ++ more
  | [], kvs, _ => by simp [mergeK]
  | p :: r, kvs, h => by
    show mergeK (putK kvs p.1 p.2) r = _
    have hn : valV kvs p.1 = none := by
      unfold valV
      rw [List.find?_eq_none.mpr fun q hq => ?_]
      · rfl
      · simp only [decide_eq_true_eq]
        intro e
        rw [List.map_append] at h
        exact (List.nodup_append.mp h).2.2 q.1 (List.mem_map.mpr ⟨q, hq, rfl⟩) p.1 (by simp) e
    rw [putK_new p.2 hn]
    have e1 : kvs ++ [(p.1, p.2)] ++ r = kvs ++ p :: r := by simp
    rw [merge_nodup r (kvs ++ [(p.1, p.2)]) (by rw [e1]; exact h), e1]
theorem keys_zip {kvs : List (KY × T)} {ws : List V} (hl : ws.length = kvs.length) (nd : (kvs.map (·.1)).Nodup) : ((((kvs.map (toK ·.1)).zip ws)).map (·.1)).Nodup := by
  rw [List.map_fst_zip (by rw [List.length_map, hl]; exact Nat.le_refl _)]
  have : kvs.map (toK ·.1) = (kvs.map (·.1)).map toK := by simp
  rw [this]
  exact List.Pairwise.map _ (fun a b h e => h (toK_inj a b e)) nd
end
section
variable {X : Cx} {e o : Expr} {es : List Expr} {pos apos : Pos} {c ca cb cc : Nat} {w wa wb : TW} {ws : TWs}
def wFrz (w : TW) : TW := fun ρ P => w ρ fun t => optP t.frz fun d => P (.fr d)
theorem we_frz (h : WMk X c e w) : WE X c e (wFrz w) := PE.imp h fun σ H Q ⟨G, ρ, fp, P, hd, rs, hn, hw, k⟩ =>
  ⟨G, ρ, fp, _, hd, rs, hn, hw, fun v t f G' H' x r fr lk p lk2 => by
    obtain ⟨d, hd, p⟩ := optP_ok p
    obtain ⟨G2, x2, rd⟩ := x.frz r fr hd
    exact k v _ [] G2 H' x2 (.fr rd) noFp lk p⟩
/-- dict(pairs) -/
def lstT : T → Option (List T)
  | .lst _ ts => some ts
  | .fr (.lst ds) => some (ds.map .fr)
  | _ => none
def mDict (w : TW) : TW := fun ρ P => w ρ fun t => optP ((lstT t).bind pairsK) fun kvs => (kvs.map (·.1)).Nodup ∧ P (.dk true kvs)
theorem wk_dict {p : Pos} (hcalm : X.calm = true) (hg : Gl X "dict") (hm : X.mg "dict" = none) (ha : WMk X c e w) (he : starEach [e] X.env = (false, eval e X.env) :: starEach [] X.env := by rfl) (hpl : (backTo pos (starEach [] X.env)).any (·.1) = false := by rfl) :
    WMk X c (.Call (.Name "dict" p) [e] [] pos) (mDict w) := PE.imp (pe_callTy (call_dictP hcalm) hg hm (by decide +kernel) (wks_cons ha wks_nil he) (by decide) (by decide) he hpl) fun σ H Q ⟨G, ρ, fp, P, hd, rs, hn, hw, k⟩ => by
  refine ⟨G, ρ, fp, fun ts => ∃ t, ts = [t] ∧ optP ((lstT t).bind pairsK) fun kvs => (kvs.map (·.1)).Nodup ∧ P (.dk true kvs), hd, rs, hn, ?_, fun vs ts f G1 H1 x1 r1 fr1 lk1 q1 => ?_⟩
  · show w ρ fun t => wNil ρ fun ts => _
    have : ∀ (P' P'' : T → Prop), P' = P'' → w ρ P' → w ρ P'' := fun _ _ e h => e ▸ h
    refine this _ _ (funext fun t => ?_) hw
    show _ = (∃ t', [t] = [t'] ∧ _)
    apply propext
    constructor
    · intro h; exact ⟨t, rfl, h⟩
    · rintro ⟨t', e, h⟩; cases e; exact h
  · obtain ⟨t, rfl, q⟩ := q1
    obtain ⟨kvs, h1, nd, p⟩ := optP_ok q
    obtain ⟨v, rfl, r⟩ := r1.one1
    cases ht : lstT t with
    | none => rw [ht] at h1; cases h1
    | some ts =>
      rw [ht] at h1
      have h1 : pairsK ts = some kvs := h1
      have key : ∃ a vs g, v = V.ref a ∧ SqL X.K H1 a vs ∧ RepTs X.K G1 H1 vs ts g ∧ Fresh H g := by
        unfold lstT at ht
        split at ht
        · next m ts' =>
          cases ht
          cases r with
          | lst ha ng rt => exact ⟨_, _, _, rfl, SqL.of ha, rt, by
              refine ⟨?_, fun q hq => fr1.2 q (List.mem_cons_of_mem _ hq)⟩
              have h2 := fr1.1
              cases m with
              | true => exact (List.nodup_cons.mp h2).2
              | false => exact h2⟩
        · next ds =>
          cases ht
          obtain ⟨a, vs, rfl, ha, _, rd⟩ := r.d.1.lst' x1.hd
          exact ⟨a, vs, [], rfl, SqL.of ha, rd.ts, fresh_nil⟩
        · cases ht
      obtain ⟨a, vs, g, rfl, ha, rt, frg⟩ := key
      obtain ⟨ps, ws, rfl, hl, hp, rw'⟩ := pairs_ok x1.hd rt h1
      refine ⟨a, ps, _, rfl, ha, hp, fun p0 hp0 lk => ?_⟩
      rw [merge_nodup _ [] (by rw [List.nil_append]; exact keys_zip hl nd), List.nil_append] at lk ⊢
      have ow := Ext.own x1.hd hp0 (.dK ((kvs.map (toK ·.1)).zip ws))
      have nq : ∀ z ∈ g, z.2 ≠ p0 := fun z hz e => repTs_there rt z hz (e ▸ hp0)
      exact k (.ref p0) (.dk true kvs) ((true, p0) :: g) G1 _ ((x1.trans ow).more (by omega)) (.dk upd_same (x1.hd.free hp0) (rw'.ext ow)) (frg.cons (x1.back_none hp0) nq) lk p
/-! ### displays -/
def WPs (X : Cx) (pos : Pos) (c : Nat) (ks : List (Option Expr)) (vs : List Expr) (w : Rho → (List (KY × T) → Prop) → Prop) : Prop := ∃ trs, PPs X pos ks vs trs ∧ ∀ σ H Q, (∃ G ρ fp P, Holds G H ∧ RepS X.K G H σ ρ fp ∧ G.n + c ≤ LIM ∧ w ρ P ∧
  ∀ kvs ws f G' H', Ext c G H G' H' → ws.length = kvs.length → RepTs X.K G' H' ws (kvs.map (·.2)) f → Fresh H f → P kvs → Q ((kvs.map fun p => kV (toK p.1)).zip ws) H') → tPairs trs σ H Q
def pNil : Rho → (List (KY × T) → Prop) → Prop := fun _ P => P []
def pCons (wk wv : TW) (w : Rho → (List (KY × T) → Prop) → Prop) : Rho → (List (KY × T) → Prop) → Prop := fun ρ P => wk ρ fun tk => wv ρ fun t => w ρ fun kvs => optP (keyT tk) fun k => P ((k, t) :: kvs)
theorem wps_nil : WPs X pos 0 [] [] pNil := ⟨[], pps_nil, fun σ H Q ⟨G, ρ, fp, P, hd, rs, hn, hw, k⟩ => k [] [] [] G H (Ext.refl hd) rfl .nil fresh_nil hw⟩
theorem wps_cons {kx vx : Expr} {ks : List (Option Expr)} {vs : List Expr} {wk wv : TW} {wr : Rho → (List (KY × T) → Prop) → Prop} (hk : WE X ca kx wk) (hv : WMk X cb vx wv) (hr : WPs X pos cc ks vs wr) : WPs X pos (ca + (cb + cc)) (some kx :: ks) (vx :: vs) (pCons wk wv wr) := by
  obtain ⟨trs, h1, h2⟩ := hr
  refine ⟨_, pps_cons hk hv h1, fun σ H Q ⟨G, ρ, fp, P, hd, rs, hn, hw, k⟩ => ?_⟩
  refine ⟨G, ρ, fp, _, hd, rs, by omega, hw, fun v t f G1 H1 x1 r1 f1 lk1 hw1 => ?_⟩
  have := x1.hi
  refine ⟨G1, ρ, fp, _, x1.hd, rs.ext x1, by omega, hw1, fun v2 t2 f2 G2 H2 x2 r2 fr2 lk2 hw2 => ?_⟩
  have := x2.hi
  refine h2 σ H2 _ ⟨G2, ρ, fp, _, x2.hd, (rs.ext x1).ext x2, by omega, hw2, fun kvs ws f3 G3 H3 x3 hl r3 fr3 p3 => ?_⟩
  obtain ⟨k0, hk0, p⟩ := optP_ok p3
  unfold keyT at hk0
  split at hk0
  · next d =>
    have ek := keyD_ok r1.d.1 hk0
    subst ek
    have fr2' : Fresh H f2 := ⟨fr2.1, fun q hq => ⟨(fr2.2 q hq).1, x1.back_none (fr2.2 q hq).2⟩⟩
    exact k ((k0, t2) :: kvs) (v2 :: ws) (f2 ++ f3) G3 H3 ((x1.trans x2).trans' x3 (by omega)) (by simp [hl]) (.cons (r2.ext x3) r3) (fr2'.app (x1.trans x2) (repT_there r2) fr3) p
  · cases hk0
theorem zip_kv : ∀ (kvs : List (KY × T)) (ws : List V), ws.length = kvs.length → (kvs.map fun p => kV (toK p.1)).zip ws = ((kvs.map (toK ·.1)).zip ws).map fun kv => (kV kv.1, kv.2)
  | [], _, _ => rfl
  | _ :: _, [], h => by simp at h
  | p :: kvs, w :: ws, h => by simp only [List.map_cons, List.zip_cons_cons]; rw [zip_kv kvs ws (by simpa using h)]
def mDisp (w : Rho → (List (KY × T) → Prop) → Prop) : TW := fun ρ P => w ρ fun kvs => kvs.length ≤ 15 ∧ (kvs.map (·.1)).Nodup ∧ P (.dk true kvs)
theorem wk_disp {ks : List (Option Expr)} {vs : List Expr} {wp : Rho → (List (KY × T) → Prop) → Prop} (h : WPs X pos c ks vs wp) (hall : ks.all (·.isSome) = true := by rfl) (hl : ks.length = vs.length := by rfl) (h0 : ks ≠ [] := by exact fun z => nomatch z) (h15 : ks.length ≤ 15 := by decide) : WMk X c (.Dict ks vs pos) (mDisp wp) := by
  obtain ⟨trs, h1, h2⟩ := h
  refine PE.imp (pe_disp h1 hall hl h0 h15) fun σ H Q ⟨G, ρ, fp, P, hd, rs, hn, hw, k⟩ => fun p hp => ?_
  have ow := Ext.own hd hp (.dK [])
  refine h2 σ _ _ ⟨G, ρ, fp, _, ow.hd, rs.ext ow, hn, hw, fun kvs ws f G1 H1 x1 hlen r1 fr1 ⟨q1, q2, q3⟩ => ?_⟩
  have hgp := hd.free hp
  have st := x1.stay (show upd H p (.dK []) p = some _ from upd_same) hgp
  have nf : ∀ q ∈ f, q.2 ≠ p := fun q hq e => by
    have := (fr1.2 q hq).2
    rw [e, upd_same] at this; cases this
  refine ⟨st.1, (kvs.map (toK ·.1)).zip ws, ?_, by rw [List.length_zip, List.length_map, hlen, Nat.min_self]; exact q1, fun lk => ?_⟩
  · exact zip_kv kvs ws hlen
  · rw [merge_nodup _ [] (by rw [List.nil_append]; exact keys_zip hlen q2), List.nil_append] at lk ⊢
    have x01 : Ext c G H G1 H1 := (ow.trans' x1 (by omega))
    have x2 := x01.chg hp st.2 (fun o e => by rw [st.1] at e; cases e; exact plain_dK) (.dK ((kvs.map (toK ·.1)).zip ws))
    have r2 : RepTs X.K G1 (upd H1 p (.dK ((kvs.map (toK ·.1)).zip ws))) ws (kvs.map (·.2)) f := r1.mono (fun _ _ e => e) fun q hq o e ng => ⟨by rw [upd_ne (nf q hq)]; exact e, ng⟩
    exact k (.ref p) (.dk true kvs) ((true, p) :: f) G1 _ x2 (.dk upd_same st.2 r2) (Fresh.cons ⟨fr1.1, fun q hq => ⟨(fr1.2 q hq).1, ow.back_none (fr1.2 q hq).2⟩⟩ hp nf) lk q3
end
/-! ### isinstance -/
inductive Ty7 where
  | non | bool | int | str | list | tuple | dict
def Ty7.nm : Ty7 → String
  | .non => "NoneType" | .bool => "bool" | .int => "int" | .str => "str" | .list => "list" | .tuple => "tuple" | .dict => "dict"
def Ty7.isa : Ty7 → Ty7 → Bool
  | .non, .non => true
  | .bool, .bool => true
  | .bool, .int => true
  | .int, .int => true
  | .str, .str => true
  | .list, .list => true
  | .tuple, .tuple => true
  | .dict, .dict => true
  | _, _ => false
theorem isa_ok (K : PySem.W.Frag) (a b : Ty7) : PySem.W.kitOne K (.type a.nm) (.type b.nm) = some (a.isa b) := by
  cases a <;> cases b <;> kernel_rfl
def tyT : T → Option Ty7
  | .fr .non => some .non
  | .fr (.bl _) => some .bool
  | .fr (.int _) => some .int
  | .fr (.str _) => some .str
  | .fr (.lst _) => some .list
  | .fr (.tup _) => some .tuple
  | .fr (.dk _) => some .dict
  | .tup _ => some .tuple
  | .lst _ _ => some .list
  | .dk _ _ => some .dict
  | .dt _ _ => some .dict
  | _ => none
theorem ty_ok {K : PySem.W.Frag} {G : Gh} {H : Hp} {v : V} {t : T} {f : Fps} {y : Ty7} (hd : Holds G H) (r : RepT K G H v t f) (e : tyT t = some y) : TyX K H v (.type y.nm) := by
  unfold tyT at e
  split at e <;> first | cases e | skip
  all_goals try cases e
  · cases r.d.1; exact .base .non
  · cases r.d.1; exact .base (.bl _)
  · cases r.d.1; exact .base (.int _)
  · cases r.d.1; exact .base (.str _)
  · obtain ⟨a, vs, rfl, ha, _, _⟩ := r.d.1.lst' hd; exact .base (.lst ha)
  · obtain ⟨a, vs, rfl, ha, _, _⟩ := r.d.1.tup' hd; exact .base (.tup ha)
  · have rd := r.d.1
    cases rd with
    | dk e1 _ =>
      rcases hd.ho _ _ e1 with h | ⟨ob, h, _⟩
      · exact .base (.dK h)
      · exact .fDict h
  · cases r with
    | tup e1 _ =>
      rcases hd.ho _ _ e1 with h | ⟨ob, h, h2⟩
      · exact .base (.tup h)
      · rcases h2 with ⟨_, z⟩ | ⟨_, z⟩ <;> cases z
  · cases r with | lst h _ _ => exact .base (.lst h)
  · cases r with | dk h _ _ => exact .base (.dK h)
  · cases r with | dt h _ _ => exact .base (.dT h)
section
variable {X : Cx} {e o : Expr} {es : List Expr} {pos apos : Pos} {c ca cb cc : Nat} {w wa wb : TW} {ws : TWs}
def oIsa (bs : List Ty7) : T → (T → Prop) → Prop := fun t P => optP (tyT t) fun y => P (.fr (.bl (bs.any fun b => y.isa b)))
theorem we_isa {b : Ty7} {x : Str} {p p2 : Pos} (hx : bootBuiltins x = some (.type b.nm)) (he : WE X c e w) (hg : Gl X "isinstance") (hm : X.mg "isinstance" = none) (hgx : Gl X x) (hmx : X.mg x = none) (hn : x ≠ "__name__" := by decide) (hdb : (x == ("__debug__" : Str)) = false := by decide)
    (hs : starEach [e, .Name x p2] X.env = (false, eval e X.env) :: starEach [.Name x p2] X.env := by rfl) (hs2 : starEach [.Name x p2] X.env = (false, eval (.Name x p2) X.env) :: starEach [] X.env := by rfl) (hpl : (backTo pos (starEach [.Name x p2] X.env)).any (·.1) = false := by rfl) :
    WE X c (.Call (.Name "isinstance" p) [e, .Name x p2] [] pos) (w1 (oIsa [b]) w) :=
  PE.imp (pe_callB call_isi hg hm (by decide +kernel) (pa_cons he (pa_cons (pe_bltn (v := .ty b.nm) hgx hmx hx rfl hn hdb) pa_nil hs2) hs) (by decide) (by decide) hs hpl) fun σ H Q ⟨G, ρ, fp, P, hd, rs, hn, hw, k⟩ => by
  refine ⟨G, ρ, fp, _, hd, rs, hn, hw, fun v t f G1 H1 x1 r1 f1 lk1 hw1 => ?_⟩
  obtain ⟨y, hy, p⟩ := optP_ok hw1
  refine ⟨v, .ty b.nm, .type y.nm, .type b.nm, y.isa b, rfl, .ty _, ty_ok x1.hd r1 hy, isa_ok X.K y b, fun lk => ?_⟩
  refine k (.bl (y.isa b)) _ [] G1 H1 x1 (.fr (.bl _)) noFp lk ?_
  simpa using p
theorem we_isa2 {b b' : Ty7} {x x' : Str} {p p2 p3 p4 : Pos} {y1} (hx : bootBuiltins x = some (.type b.nm)) (hx' : bootBuiltins x' = some (.type b'.nm)) (he : WE X c e w) (hg : Gl X "isinstance") (hm : X.mg "isinstance" = none) (hgx : Gl X x) (hmx : X.mg x = none) (hgx' : Gl X x') (hmx' : X.mg x' = none) (hn : x ≠ "__name__" := by decide) (hdb : (x == ("__debug__" : Str)) = false := by decide) (hn' : x' ≠ "__name__" := by decide) (hdb' : (x' == ("__debug__" : Str)) = false := by decide)
    (hs : starEach [e, .Tuple [.Name x p2, .Name x' p3] y1 p4] X.env = (false, eval e X.env) :: starEach [.Tuple [.Name x p2, .Name x' p3] y1 p4] X.env := by rfl) (hs2 : starEach [.Tuple [.Name x p2, .Name x' p3] y1 p4] X.env = (false, eval (.Tuple [.Name x p2, .Name x' p3] y1 p4) X.env) :: starEach [] X.env := by rfl)
    (hs3 : starEach [.Name x p2, .Name x' p3] X.env = (false, eval (.Name x p2) X.env) :: starEach [.Name x' p3] X.env := by rfl) (hs4 : starEach [.Name x' p3] X.env = (false, eval (.Name x' p3) X.env) :: starEach [] X.env := by rfl) (hpl : (backTo pos (starEach [.Tuple [.Name x p2, .Name x' p3] y1 p4] X.env)).any (·.1) = false := by rfl) :
    WE X c (.Call (.Name "isinstance" p) [e, .Tuple [.Name x p2, .Name x' p3] y1 p4] [] pos) (w1 (oIsa [b, b']) w) :=
  PE.imp (pe_callB call_isiT hg hm (by decide +kernel) (pa_cons he (pa_cons (pe_tup (pa_cons (pe_bltn (v := .ty b.nm) hgx hmx hx rfl hn hdb) (pa_cons (pe_bltn (v := .ty b'.nm) hgx' hmx' hx' rfl hn' hdb') pa_nil hs4) hs3)) pa_nil hs2) hs) (by decide) (by decide) hs hpl) fun σ H Q ⟨G, ρ, fp, P, hd, rs, hn, hw, k⟩ => by
  refine ⟨G, ρ, fp, _, hd, rs, hn, hw, fun v t f G1 H1 x1 r1 f1 lk1 hw1 => ?_⟩
  obtain ⟨y, hy, p⟩ := optP_ok hw1
  refine ⟨by rw [sizeLine_eq]; show 2 ≤ 16777216; decide, fun q hq => ?_⟩
  have ow := Ext.alloc x1.hd hq (.tup [.ty b.nm, .ty b'.nm])
  refine ⟨v, q, [.ty b.nm, .ty b'.nm], .type y.nm, [.type b.nm, .type b'.nm], y.isa b || y.isa b', rfl, upd_same, .cons (.ty _) (.cons (.ty _) .nil), ty_ok ow.hd (r1.ext ow) hy, ?_, fun lk => ?_⟩
  · unfold PySem.W.kitAny
    rw [isa_ok X.K y b]
    cases y.isa b with
    | true => rfl
    | false =>
      unfold PySem.W.kitAny
      rw [isa_ok X.K y b']
      cases y.isa b' with
      | true => rfl
      | false => rfl
  · refine k (.bl (y.isa b || y.isa b')) _ [] _ _ ((x1.trans ow).more (by omega)) (.fr (.bl _)) noFp lk ?_
    simpa using p
/-! ### list.index -/
def idxD (x : D) : List D → Option Nat
  | [] => none
  | d :: ds => if eqD d x = true then some 0 else (idxD x ds).map (· + 1)
def wIdx (wa wb : TW) : TW := fun ρ P => wa ρ fun t => (match elems t with
  | some (l, _) => l = true
  | none => False) ∧ wb ρ fun y => optP ((lstT t).bind frs) fun ds => flatT y = true ∧ ds.all flatD = true ∧ optP (idxD y.toD ds) fun n => P (.fr (.int (n : Nat)))
theorem idx_ok {K : PySem.W.Frag} {G : Gh} {H : Hp} {w : V} {y : T} {f : Fps} (r : RepT K G H w y f) (hy : flatT y = true) : ∀ {vs : List V} {ds : List D} {n : Nat}, RepDs K G vs ds → ds.all flatD = true → idxD y.toD ds = some n →
    ∃ z, vs[n]? = some z ∧ eqV z w = true ∧ ∀ (m : Nat) (z' : V), m < n → vs[m]? = some z' → eqV z' w = false
  | _, [], _, .nil, _, h => by cases h
  | _, d :: ds, n, .cons (v := v) q t, ha, h => by
    simp only [List.all_cons, Bool.and_eq_true] at ha
    have e1 : eqV v w = eqD d y.toD := eqV_eqD (s := .fr d) (.fr q : RepT K G H v (.fr d) []) r ha.1 hy
    unfold idxD at h
    by_cases e : eqD d y.toD = true
    · rw [if_pos e] at h; cases h
      exact ⟨v, rfl, by rw [e1]; exact e, fun m z hm => by omega⟩
    · rw [if_neg e] at h
      obtain ⟨k, hk, rfl⟩ := map_some h
      obtain ⟨z, h1, h2, h3⟩ := idx_ok r hy t ha.2 hk
      refine ⟨z, by simpa using h1, h2, fun m z' hm hz => ?_⟩
      cases m with
      | zero =>
        have : v = z' := by simpa using hz
        subst this
        rw [e1]; exact Bool.not_eq_true _ ▸ e
      | succ m => exact h3 m z' (by omega) (by simpa using hz)
theorem flats_V {K : PySem.W.Frag} {G : Gh} {H : Hp} : ∀ {vs : List V} {ds : List D}, RepDs K G vs ds → ds.all flatD = true → vs.all flatV = true
  | _, [], .nil, _ => rfl
  | _, d :: ds, .cons q t, ha => by
    simp only [List.all_cons, Bool.and_eq_true] at ha ⊢
    exact ⟨flat_V (H := H) (t := .fr d) (.fr q) ha.1, flats_V (H := H) t ha.2⟩
theorem we_idx (ho : WE X ca o wa) (he : WE X cb e wb)
    (hbase : attributeBase o "index" X.env (eval o X.env) = eval o X.env := by rfl)
    (hfew : ((backTo pos (starEach [e] X.env)).all (fun x => !x.1) && (backToKw pos (keywordEach [] X.env)).all (fun x => x.1.isSome) && decide ([e].length + ([] : List Keyword).length + (if ([] : List Keyword).isEmpty then 0 else 1) < 30)) = true := by rfl)
    (hline : (apos.endLine == pos.line) = true := by rfl) (hse : starEach [e] X.env = (false, eval e X.env) :: starEach [] X.env := by rfl) (hpl : (backTo pos (starEach [] X.env)).any (·.1) = false := by rfl) :
    WE X (ca + cb) (.Call (.Attribute o "index" apos) [e] [] pos) (wIdx wa wb) :=
  PE.imp (pe_bm PySem.F.plainAttrs_list PySem.F.slot_list_index PySem.F.type_list_index (show MtR X "list.index" (rIndex X.K) from mt_index) ho (pa_cons he pa_nil hse) hbase hfew hline hse hpl) fun σ H Q ⟨G, ρ, fp, P, hd, rs, hn, hw, k⟩ => by
  refine ⟨G, ρ, fp, _, hd, rs, by omega, hw, fun v t f G1 H1 x1 r1 f1 lk1 ⟨h1, hw1⟩ => ?_⟩
  have := x1.hi
  split at h1
  · next l ts he =>
    obtain ⟨a, vs, g, rfl, hl, rt, _⟩ := elems_ok x1.hd r1 he
    have h1 : l = true := h1
    subst h1
    refine ⟨.inl ⟨rfl, vs, hl⟩, G1, ρ, fp, _, x1.hd, rs.ext x1, by omega, hw1, fun w2 y g2 G2 H2 x2 r2 f2 lk2 q => ?_⟩
    obtain ⟨ds, h2, hy, hf, q⟩ := optP_ok q
    obtain ⟨n, hn2, p⟩ := optP_ok q
    have r1' := r1.ext x2
    have key : ∃ a' vs', V.ref a = V.ref a' ∧ SqL X.K H2 a' vs' ∧ RepDs X.K G2 vs' ds := by
      cases ht : lstT t with
      | none => rw [ht] at h2; cases h2
      | some ts' =>
        rw [ht] at h2
        have h2 := frs_ok h2
        unfold lstT at ht
        split at ht
        · cases ht
          cases r1' with
          | lst ha ng rt2 =>
            rw [h2] at rt2
            exact ⟨_, _, rfl, SqL.of ha, rt2.ds.1⟩
        · cases ht
          obtain ⟨a', vs', e', ha, _, rd⟩ := r1'.d.1.lst' x2.hd
          have inj : ∀ (xs ys : List D), xs.map T.fr = ys.map T.fr → xs = ys := by
            intro xs
            induction xs with
            | nil => intro ys h; cases ys with | nil => rfl | cons _ _ => cases h
            | cons x xs ih =>
              intro ys h
              cases ys with
              | nil => cases h
              | cons y ys =>
                simp only [List.map_cons, List.cons.injEq, T.fr.injEq] at h
                rw [h.1, ih ys h.2]
          have := inj _ _ h2
          subst this
          exact ⟨a', vs', e', SqL.of ha, rd⟩
        · cases ht
    obtain ⟨a', vs', e', hs, rd⟩ := key
    cases e'
    obtain ⟨z, z1, z2, z3⟩ := idx_ok r2 hy rd hf hn2
    exact ⟨a, vs', w2, n, z, rfl, rfl, hs, flat_V r2 hy, flats_V (H := H2) rd hf, z1, z2, z3, fun lk => k _ _ [] G2 H2 (x1.trans x2) (.fr (.int _)) noFp lk p⟩
  · exact h1.elim
end
end TL
set_option Elab.async false
set_option linter.all false
set_option maxRecDepth 100000
set_option maxHeartbeats 1000000
/-! TL28: several names at once. -/
namespace TL
open PySem PySem.Spec PyProof.Rows L2
structure ResL (K : PySem.W.Frag) (Z : Ctx) (G : Gh) (H : Hp) (σ : L2.St) (ρ : Rho) (vs : List V) (ts : List T) : Prop where
  st : StOk K Z G H σ ρ
  rep : ∃ fp f, RepS K G H σ ρ fp ∧ RepTs K G H vs ts f ∧ (mines (f ++ fp)).Nodup ∧ (∀ a, (true, a) ∈ f ++ fp → Z.H0 a = none) ∧ ∀ a, (false, a) ∈ f ++ fp → Z.H0 a ≠ none
section
variable {K : PySem.W.Frag} {G G' : Gh} {H H' : Hp} {c : Nat} {σ : L2.St} {ρ : Rho} {Z : Ctx}
theorem ResL.ofMk {vs : List V} {ts : List T} {f : Fps} (s : StOk K Z G H σ ρ) (x : Ext c G H G' H') (r : RepTs K G' H' vs ts f) (fr : Fresh H f) : ResL K Z G' H' σ ρ vs ts := by
  have s' := s.ext x
  obtain ⟨fp, r0, n, m, l⟩ := s.rep
  refine ⟨s', fp, f, r0.ext x, r, ?_, fun a ha => ?_, fun a ha => ?_⟩
  · rw [mines_app]
    refine List.nodup_append.mpr ⟨fr.1, n, fun p hp q hq e => ?_⟩
    subst e
    exact repS_there r0 _ (mem_mines.mp hq) (fr.2 _ (mem_mines.mp hp)).2
  · rcases List.mem_append.mp ha with h | h
    · have h1 := (fr.2 _ h).2
      cases q : Z.H0 a with
      | none => rfl
      | some u => exact absurd h1 (s.there a (by rw [q]; exact fun z => nomatch z))
    · exact m a h
  · rcases List.mem_append.mp ha with h | h
    · have := (fr.2 _ h).1; cases this
    · exact l a h
theorem ResL.set {i : Nat} {v : V} {t : T} {vs : List V} {ts : List T} (r : ResL K Z G H σ ρ (v :: vs) (t :: ts)) (hi : i < ρ.length) (hz : Z.pins.length ≤ i) : ResL K Z G H (σ.set i (some v)) (ρ.set i (some t)) vs ts := by
  obtain ⟨s, fp, f, r0, rts, n, m, l⟩ := r
  cases rts with
  | cons rt rts =>
    rename_i f1 f2
    have res : Res K Z G H σ ρ v t := ⟨s, fp, f1, r0, rt, by
      have sb : (f1 ++ fp).Sublist (f1 ++ f2 ++ fp) := by
        rw [List.append_assoc]
        exact List.Sublist.append (List.Sublist.refl _) (List.sublist_append_right _ _)
      unfold mines at n ⊢
      exact ((sb.filter _).map _).nodup n, fun a ha => m a (by
        rcases List.mem_append.mp ha with h | h
        · exact List.mem_append_left _ (List.mem_append_left _ h)
        · exact List.mem_append_right _ h), fun a ha => l a (by
        rcases List.mem_append.mp ha with h | h
        · exact List.mem_append_left _ (List.mem_append_left _ h)
        · exact List.mem_append_right _ h)⟩
    have s2 := res.set hi (.inl hz)
    obtain ⟨fp1, r1, sb⟩ := RepS.any (some v) i r0
    have hsl : σ.length = ρ.length := r0.length
    obtain ⟨fp2, r2, p⟩ := RepS.put1 rt i r1 (by simpa using hi) (look_set_none ρ i) (by rw [List.getElem?_set_self (by omega)])
    rw [List.set_set] at r2
    have perm : (f2 ++ fp2).Perm (f1 ++ f2 ++ fp1) := by
      refine (List.Perm.append_left f2 p).trans ?_
      rw [← List.append_assoc]
      exact List.Perm.append_right _ List.perm_append_comm
    have sb2 : (f1 ++ f2 ++ fp1).Sublist (f1 ++ f2 ++ fp) := List.Sublist.append (List.Sublist.refl _) sb
    refine ⟨s2, fp2, f2, r2, rts, ?_, fun a ha => m a (sb2.subset (perm.mem_iff.mp ha)), fun a ha => l a (sb2.subset (perm.mem_iff.mp ha))⟩
    refine (perm_mines perm).nodup_iff.mpr ?_
    unfold mines at n ⊢
    exact ((sb2.filter _).map _).nodup n
end
section
variable {X : Cx} {e o : Expr} {es : List Expr} {pos apos : Pos} {np : Np} {c ca cb cc : Nat} {w wa wb : TW} {ws : TWs}
def sPar3 (n i j l : Nat) (ws : TWs) : TSW := fun E ρ => ws ρ fun ts => match ts with
  | [a, b, d] => (i < ρ.length ∧ j < ρ.length ∧ l < ρ.length) ∧ (n ≤ i ∧ n ≤ j ∧ n ≤ l) ∧ E.nx (((ρ.set i (some a)).set j (some b)).set l (some d))
  | _ => False
theorem ws_par3 {i j l : Nat} {x y z : Str} {a b d : Expr} {px py pz pt : Pos} {kt k2 pt2} (hc : X.calm = true) (hN : X.N.Nodup) (hi : X.N[i]? = some x) (hj : X.N[j]? = some y) (hl : X.N[l]? = some z) (hij : i ≠ j) (hil : i ≠ l) (hjl : j ≠ l)
    (hx : X.env.scope.names.lookup x = some .local) (hy : X.env.scope.names.lookup y = some .local) (hz : X.env.scope.names.lookup z = some .local) (ha : WMks X c [a, b, d] ws)
    (hw : swappedStores [.Tuple [.Name x px, .Name y py, .Name z pz] kt pt] (.Tuple [a, b, d] k2 pt2) X.env = pure (some [x, y, z]))
    (hs : swapsWithSole [.Tuple [.Name x px, .Name y py, .Name z pz] kt pt] (.Tuple [a, b, d] k2 pt2) pos.line X.env = pure false := by rfl) :
    WS X np c (.Assign [.Tuple [.Name x px, .Name y py, .Name z pz] kt pt] (.Tuple [a, b, d] k2 pt2) pos) (sPar3 np.n i j l ws) := PS.imp (ps_par3 hc hN hi hj hl hij hil hjl hx hy hz ha hw hs) fun D σ H ⟨Z, G, ρ, E, hZ, s, hn, hw, g⟩ => by
  obtain ⟨fp, r, n, m, lt⟩ := s.rep
  refine ⟨G, ρ, fp, _, s.hd, r, hn, hw, fun vs ts f G' H' x' r' fr lk p => ?_⟩
  split at p
  · next t1 t2 t3 =>
    have hl3 := r'.length
    match vs, hl3, r' with
    | [v1, v2, v3], _, r' =>
      obtain ⟨⟨p1, p2, p3⟩, ⟨q1, q2, q3⟩, p⟩ := p
      have rl := ResL.ofMk s x' r' fr
      have r1 := rl.set p1 (by rw [hZ]; exact q1)
      have r2 := r1.set (i := j) (by simpa using p2) (by rw [hZ]; exact q2)
      have r3 := r2.set (i := l) (by simpa using p3) (by rw [hZ]; exact q3)
      exact ⟨v1, v2, v3, rfl, g.nx _ _ G' H' r3.st x'.hi p⟩
  · exact p.elim
def sPar2 (n i j : Nat) (ws : TWs) : TSW := fun E ρ => ws ρ fun ts => match ts with
  | [a, b] => (i < ρ.length ∧ j < ρ.length) ∧ (n ≤ i ∧ n ≤ j) ∧ E.nx ((ρ.set i (some a)).set j (some b))
  | _ => False
theorem ws_par2 {i j : Nat} {x y : Str} {a b : Expr} {px py pt : Pos} {kt k2 pt2} (hc : X.calm = true) (hN : X.N.Nodup) (hi : X.N[i]? = some x) (hj : X.N[j]? = some y) (hij : i ≠ j)
    (hx : X.env.scope.names.lookup x = some .local) (hy : X.env.scope.names.lookup y = some .local) (ha : WMks X c [a, b] ws)
    (hw : swappedStores [.Tuple [.Name x px, .Name y py] kt pt] (.Tuple [a, b] k2 pt2) X.env = pure (some [x, y]))
    (hs : swapsWithSole [.Tuple [.Name x px, .Name y py] kt pt] (.Tuple [a, b] k2 pt2) pos.line X.env = pure false := by rfl) :
    WS X np c (.Assign [.Tuple [.Name x px, .Name y py] kt pt] (.Tuple [a, b] k2 pt2) pos) (sPar2 np.n i j ws) := PS.imp (ps_par hc hN hi hj hij hx hy ha hw hs) fun D σ H ⟨Z, G, ρ, E, hZ, s, hn, hw, g⟩ => by
  obtain ⟨fp, r, n, m, lt⟩ := s.rep
  refine ⟨G, ρ, fp, _, s.hd, r, hn, hw, fun vs ts f G' H' x' r' fr lk p => ?_⟩
  split at p
  · next t1 t2 =>
    have hl3 := r'.length
    match vs, hl3, r' with
    | [v1, v2], _, r' =>
      obtain ⟨⟨p1, p2⟩, ⟨q1, q2⟩, p⟩ := p
      have rl := ResL.ofMk s x' r' fr
      have r1 := rl.set p1 (by rw [hZ]; exact q1)
      have r2 := r1.set (i := j) (by simpa using p2) (by rw [hZ]; exact q2)
      exact ⟨v1, v2, rfl, g.nx _ _ G' H' r2.st x'.hi p⟩
  · exact p.elim
end
end TL
set_option Elab.async false
set_option linter.all false
set_option maxRecDepth 100000
set_option maxHeartbeats 1000000
/-! TL29: the draws. -/
namespace TL
open PySem PySem.Spec PyProof.Rows L2
theorem Fn.ofM {P : Program} {w : World} {K : PySem.W.Frag} {mg : Str → Option Value} {base : Heap} {x : Str} {k n c n' c' : Nat} {S : SpS} {S' : List T → (D → Prop) → Prop} (F : FnM P w K mg base x k n c S) (h : ∀ vs H Q E, spP K n' c' S' vs H Q E → spM K n c S vs H Q E) : Fn P w K mg base x k n' c' S' := by
  obtain ⟨f, fd, ps, ok, hm, kp, b⟩ := F.ex
  refine ⟨L2.CX P w, f, fd, ps, fun X e1 e2 => ?_, ok.imp h, hm, kp, b⟩
  subst e1; subst e2
  exact passes_call (E := fun _ _ _ => False) LamX.takes0 fun _ _ _ _ h => h
/-- a def that never raises and changes nothing, in the other words -/
theorem Fn.ofP {P : Program} {w : World} {K : PySem.W.Frag} {mg : Str → Option Value} {base : Heap} {x : Str} {k n c n' c' : Nat} {S S' : List T → (D → Prop) → Prop} (F : Fn P w K mg base x k n c S) (h : ∀ vs H Q E, spP K n' c' S' vs H Q E → spP K n c S vs H Q E) : Fn P w K mg base x k n' c' S' := by
  obtain ⟨CX, f, fd, ps, hp, ok, hm, kp, b⟩ := F.ex
  exact ⟨CX, f, fd, ps, hp, ok.imp h, hm, kp, b⟩
section
variable {K : PySem.W.Frag} {G G' : Gh} {H H' : Hp} {c : Nat}
def ints3 (x y z : Int) : List T := [.fr (.int x), .fr (.int y), .fr (.int z)]
open Classical in
/-- from the cell as a list of our own to the source of draws -/
theorem rng_open {S : SpS} {S' : List T → (D → Prop) → Prop} (hS : ∀ (x y z many : Int) (P : D → Prop), 0 ≤ z → z ≤ LIM → S' [.fr .rng, .fr (.int many)] P → S [.lst true (ints3 x y z), .fr (.int many)] (fun t ρr => ∃ d x' y' z', t = .fr (.int d) ∧ ρr = [some (.lst true (ints3 x' y' z')), none] ∧ 0 ≤ z' ∧ z' ≤ z + 1 ∧ P (.int d)) fun _ _ => False)
    (hs' : ∀ ts P, S' ts P → ∃ many, ts = [.fr .rng, .fr (.int many)]) : ∀ vs H Q E, spP K 2 1 S' vs H Q E → spM K 2 0 S vs H Q E := by
  intro vs H Q E ⟨G, ts, fp, P, hd, r, lent, hl, hc, hs, kk⟩
  obtain ⟨many, rfl⟩ := hs' ts P hs
  cases r with
  | cons r1 rr =>
    cases rr with
    | cons r2 rr =>
      cases rr
      obtain ⟨rd1, rfl⟩ := r1.d
      obtain ⟨rd2, rfl⟩ := r2.d
      cases rd1 with
      | rng ea =>
        rename_i a
        have e2 := rd2.int'
        subst e2
        obtain ⟨x, y, z, hz, z0, zn⟩ := hd.rng a ea
        let Gm : Gh := ⟨fun b => if b = a then none else G.obj b, G.n⟩
        have ga : Gm.obj a = none := if_pos rfl
        have gb : ∀ b, b ≠ a → Gm.obj b = G.obj b := fun b h => if_neg h
        have ne : ∀ {b : Addr} {g : GO}, Gm.obj b = some g → b ≠ a := fun e h => by subst h; rw [ga] at e; cases e
        have hdm : Holds Gm H := by
          refine ⟨fun b u e => ?_, fun b e => ?_, fun b ns e => ?_, fun b q e => ?_⟩
          · exact hd.ho b u (by rw [← gb b (ne e)]; exact e)
          · exact hd.rng b (by rw [← gb b (ne e)]; exact e)
          · exact hd.scr b ns (by rw [← gb b (ne e)]; exact e)
          · exact hd.tab b q (by rw [← gb b (ne e)]; exact e)
        have rm : RepTs K Gm H [.ref a, .int many] [.lst true (ints3 x y z), .fr (.int many)] ((true, a) :: []) :=
          .cons (f := (true, a) :: []) (g := []) (.lst hz ga (.cons (f := []) (.fr (.int _)) (.cons (f := []) (.fr (.int _)) (.cons (f := []) (.fr (.int _)) .nil)))) (.cons (f := []) (.fr (.int _)) .nil)
        have hzl : z ≤ (LIM : Int) := by
          have h1 : (G.n : Int) ≤ (LIM : Int) := by
            have : G.n ≤ LIM := Nat.le_of_succ_le hc
            exact Int.ofNat_le.mpr this
          exact Int.le_trans zn h1
        have apartM : ∀ b, (false, b) ∈ [(true, a)] → (true, b) ∉ [(true, a)] := fun b hb => by
          have := List.mem_singleton.mp hb
          cases this
        refine ⟨Gm, _, _, _, _, hdm, rm, List.nodup_cons.mpr ⟨(fun z => nomatch z), List.nodup_nil⟩, apartM, rfl, Nat.le_of_succ_le hc, hS x y z many P z0 hzl hs, ?_, fun _ _ _ _ _ _ _ _ _ h => h.elim⟩
        rintro v t ρr fr fpr G' H' x' rt rr ndr hq ⟨d, x1, y1, z1, rfl, rfl, z10, z1n, p⟩
        have rdv := rt.d.1
        have ev := rdv.int'
        subst ev
        cases rr with
        | so ra _ =>
          cases ra with
          | lst ha' ng' rt3 =>
            rename_i vs3 f3
            have hv3 : vs3 = [.int x1, .int y1, .int z1] := by
              cases rt3 with
              | cons q1 s1 =>
                cases s1 with
                | cons q2 s2 =>
                  cases s2 with
                  | cons q3 s3 =>
                    cases s3
                    rw [q1.d.1.int', q2.d.1.int', q3.d.1.int']
            subst hv3
            have hn : G'.n = G.n := Nat.le_antisymm x'.hi x'.lo
            let G2 : Gh := ⟨fun b => if b = a then some .rng else G'.obj b, G.n + 1⟩
            have g2a : G2.obj a = some .rng := if_pos rfl
            have g2b : ∀ b, b ≠ a → G2.obj b = G'.obj b := fun b h => if_neg h
            have hd2 : Holds G2 H' := by
              refine ⟨fun b u e => ?_, fun b e => ?_, fun b ns e => ?_, fun b q e => ?_⟩ <;> by_cases q : b = a
              · subst q; rw [g2a] at e; cases e
              · exact x'.hd.ho b u (by rw [← g2b b q]; exact e)
              · subst q
                exact ⟨x1, y1, z1, ha', z10, by show z1 ≤ ((G.n + 1 : Nat) : Int); omega⟩
              · obtain ⟨a1, a2, a3, h1, h2, h3⟩ := x'.hd.rng b (by rw [← g2b b q]; exact e)
                exact ⟨a1, a2, a3, h1, h2, by show a3 ≤ ((G.n + 1 : Nat) : Int); rw [hn] at h3; omega⟩
              · subst q; rw [g2a] at e; cases e
              · exact x'.hd.scr b ns (by rw [← g2b b q]; exact e)
              · subst q; rw [g2a] at e; cases e
              · exact x'.hd.tab b _ (by rw [← g2b b q]; exact e)
            refine kk (.int d) (.int d) G2 H' ⟨hd2, fun b g e => ?_, fun b e z => ?_, fun b o e nm => ?_, Nat.le_succ _, Nat.le_refl _⟩ (.int d) p
            · by_cases q : b = a
              · subst q; rw [ea] at e; cases e; exact g2a
              · rw [g2b b q]; exact x'.sub b g (by rw [gb b q]; exact e)
            · have q : b ≠ a := fun h => by subst h; rw [ea] at e; cases e
              rw [g2b b q] at z
              rcases x'.new b (by rw [gb b q]; exact e) z with h | h
              · exact h
              · exact absurd (List.mem_singleton.mp h) q
            · have q : b ≠ a := fun h => by subst h; rw [ea] at nm; cases nm
              exact x'.keep b o e (by rw [gb b q]; exact nm) fun h => q (List.mem_singleton.mp h)
open Classical in
/-- a new list of three numbers as a source of draws -/
theorem rng_new {S : SpS} {S' : List T → (D → Prop) → Prop} {n : Nat} (hS : ∀ (ts : List T) (P : D → Prop), S' ts P → (∃ ds : List D, ts = ds.map .fr) ∧ S ts (fun t _ => P .rng ∧ ∃ x y, t = .lst true (ints3 x y 0)) fun _ _ => False) :
    ∀ vs H Q E, spP K n 0 S' vs H Q E → spM K n 0 S vs H Q E := by
  intro vs H Q E ⟨G, ts, fp, P, hd, r, lent, hl, hc, hs, kk⟩
  obtain ⟨⟨ds, rfl⟩, h2⟩ := hS ts P hs
  obtain ⟨rds, rfl⟩ := r.ds
  refine ⟨G, _, [], _, _, hd, rds.ts, List.nodup_nil, (fun _ z => nomatch z), hl, hc, h2, ?_, fun _ _ _ _ _ _ _ _ _ h => h.elim⟩
  rintro v t ρr fr fpr G' H' x' rt rr ndr hq ⟨p, x, y, rfl⟩
  cases rt with
  | lst ha ng rt3 =>
    rename_i a vs3 f3
    have hv3 : vs3 = [.int x, .int y, .int 0] := by
      cases rt3 with
      | cons q1 s1 =>
        cases s1 with
        | cons q2 s2 =>
          cases s2 with
          | cons q3 s3 =>
            cases s3
            rw [q1.d.1.int', q2.d.1.int', q3.d.1.int']
    subst hv3
    have hn : G'.n = G.n := Nat.le_antisymm x'.hi x'.lo
    have fresh : H a = none := by
      rcases (hq (true, a) (List.mem_append_left _ (List.mem_cons_self ..))).2 with h | h
      · cases h
      · exact h
    let G2 : Gh := ⟨fun b => if b = a then some .rng else G'.obj b, G'.n⟩
    have g2a : G2.obj a = some .rng := if_pos rfl
    have g2b : ∀ b, b ≠ a → G2.obj b = G'.obj b := fun b h => if_neg h
    have hd2 : Holds G2 H' := by
      refine ⟨fun b u e => ?_, fun b e => ?_, fun b ns e => ?_, fun b q e => ?_⟩ <;> by_cases q : b = a
      · subst q; rw [g2a] at e; cases e
      · exact x'.hd.ho b u (by rw [← g2b b q]; exact e)
      · subst q
        exact ⟨x, y, 0, ha, Int.le_refl _, by show (0 : Int) ≤ (G'.n : Int); omega⟩
      · exact x'.hd.rng b (by rw [← g2b b q]; exact e)
      · subst q; rw [g2a] at e; cases e
      · exact x'.hd.scr b ns (by rw [← g2b b q]; exact e)
      · subst q; rw [g2a] at e; cases e
      · exact x'.hd.tab b _ (by rw [← g2b b q]; exact e)
    refine kk (.ref a) .rng G2 H' ⟨hd2, fun b g e => ?_, fun b e z => ?_, fun b o e nm => x'.keep b o e nm (fun z => nomatch z), x'.lo, x'.hi⟩ (.rng g2a) p
    · have q : b ≠ a := fun h => by
        subst h
        exact absurd fresh (hd.there e)
      rw [g2b b q]; exact x'.sub b g e
    · by_cases q : b = a
      · subst q; exact fresh
      · rw [g2b b q] at z
        rcases x'.new b e z with h | h
        · exact h
        · cases h
end
end TL
set_option Elab.async false
set_option linter.all false
set_option maxRecDepth 100000
set_option maxHeartbeats 1000000
/-! TL30: how the new readings are evaluated. -/
namespace TL
open PySem PySem.Spec PyProof.Rows L2
theorem wss_more {X : Cx} {np : Np} {c c' : Nat} {sts : List Stmt} {W : TSW} (h : c ≤ c') (x : WSs X np c sts W) : WSs X np c' sts W := PSs.imp x fun D σ H ⟨Z, G, ρ, E, hZ, s, hn, hw, g⟩ => ⟨Z, G, ρ, E, hZ, s, by omega, hw, g.sub (by omega)⟩
theorem FnM.of2 {P : Program} {w : World} {K : PySem.W.Frag} {mg : Str → Option Value} {base : Heap} {x q : Str} {st : Stmt} {N ps : List Str} {k n c c' : Nat} {S : SpS} {W : TSW} (A : At K mg x q st) (Sc : FnScope N ps (defScope st))
    (hb : ∀ (kV doc pm : Value) (an : Option Addr) (cdv ct : Value) (us : List Value), us.length = ps.length → bindArgs (PySem.W.fnOf q q (defArgs st) (defBody st) (defScope st) .none kV doc pm an cdv ct) ⟨us, []⟩ = pure (ps.zip us)) (hn : n = ps.length) (hc : c' ≤ c)
    (hbody : ∀ (f : Addr) (cdv : Value) (A : Around) (outer : List Env) (s : Shared) (H : Hp) (E : XK), Room k (A.deeper (envOfC q (defScope st) s.heap.objs.size f cdv)) → Takes (cxOf (L2.CX P w) P w K mg base N q (defScope st) f cdv A outer s H E) (fun cls d _ H' => E cls d H') →
      WSs (cxOf (L2.CX P w) P w K mg base N q (defScope st) f cdv A outer s H E) ⟨n, fun cls d _ H' => E cls d H'⟩ c' (defBody st) W)
    (hs : ∀ ts Q R, ts.length = n → S ts Q R → W (endM ts Q R) (rho N.length ts)) : FnM P w K mg base x (k + 1) n c S :=
  FnM.of (c' := 0) A Sc hb hn (fun f cdv A outer s H E hr tk => wss_more hc (hbody f cdv A outer s H E hr tk)) hs
/-- a class's __init__ -/
def AtI (K : PySem.W.Frag) (mg : Str → Option Value) (x : Str) (C : Addr) (q : Str) (st : Stmt) : Prop := ∃ f fd, FunD K "__init__" q (defArgs st) (defBody st) (defScope st) [] [] f fd ∧ Mk K C f ∧ mg x = some (.ref C)
theorem MkM.of2 {P : Program} {w : World} {K : PySem.W.Frag} {mg : Str → Option Value} {base : Heap} {x q : Str} {C : Addr} {st : Stmt} {N ps : List Str} {k n c c' : Nat} {S : SpS} {W : TSW} (A : AtI K mg x C q st) (Sc : FnScope N ps (defScope st))
    (hb : ∀ (kV doc pm : Value) (an : Option Addr) (cdv ct : Value) (us : List Value), us.length = ps.length → bindArgs (PySem.W.fnOf "__init__" q (defArgs st) (defBody st) (defScope st) .none kV doc pm an cdv ct) ⟨us, []⟩ = pure (ps.zip us)) (hn : n = ps.length) (hc : c' ≤ c)
    (hbody : ∀ (f : Addr) (cdv : Value) (A : Around) (outer : List Env) (s : Shared) (H : Hp) (E : XK), Room k (A.deeper (envOfC q (defScope st) s.heap.objs.size f cdv)) → Takes (cxOf (L2.CX P w) P w K mg base N q (defScope st) f cdv A outer s H E) (fun cls d _ H' => E cls d H') →
      WSs (cxOf (L2.CX P w) P w K mg base N q (defScope st) f cdv A outer s H E) ⟨n, fun cls d _ H' => E cls d H'⟩ c' (defBody st) W)
    (hs : ∀ ts Q R, ts.length = n → S ts Q R → W (endM ts Q R) (rho N.length ts)) : MkM P w K mg base x C (k + 1) n c S := by
  obtain ⟨f, fd, F, M, hm⟩ := A
  exact ⟨f, fd, ps, M, def_okM F Sc hn (fun cdv A outer s H E hr tk => wss_more hc (hbody f cdv A outer s H E hr tk)) hs, hm, F.bindsN hb⟩
section
variable {ρ : Rho} {E : ET} {P : T → Prop} {PP : T → Rho → Prop} {R : Addr → List (Str × D) → Rho → Prop} {Q : Nat → List PStep → Prop}
theorem pVar_eq (i : Nat) : pVar i ρ Q = optP (look ρ i) fun _ => Q i [] := by
  unfold pVar optP; cases look ρ i <;> rfl
theorem mTake_eq (i : Nat) : mTake i ρ PP R = optP (look ρ i) fun t => PP t (ρ.set i none) := by
  unfold mTake optP; cases look ρ i <;> rfl
/-- of an instance -/
def insE (o : Option T) (P : Bool → Addr → List (Str × T) → Prop) : Prop := match o with
  | some (.ins m C fs) => P m C fs
  | _ => False
theorem insE_ins {m : Bool} {C : Addr} {fs : List (Str × T)} {P : Bool → Addr → List (Str × T) → Prop} : insE (some (.ins m C fs)) P = P m C fs := rfl
theorem pFld_eq (C : Addr) (f : Str) (wp : TWP) : pFld C f wp ρ Q = wp ρ fun i π => insE (tAt ρ i π) fun _ C' fs => C' = C ∧ (getK fs f).isSome = true ∧ Q i (π ++ [.fld f]) := by
  refine congrArg (wp ρ) (funext fun i => funext fun π => ?_)
  unfold insE
  cases tAt ρ i π with
  | none => rfl
  | some t => cases t <;> rfl
def lstE (o : Option T) (P : List T → Prop) : Prop := match o with
  | some (.lst true ts) => P ts
  | _ => False
theorem lstE_lst {ts : List T} {P : List T → Prop} : lstE (some (.lst true ts)) P = P ts := rfl
def dkE (o : Option T) (P : List (KY × T) → Prop) : Prop := match o with
  | some (.dk true ts) => P ts
  | _ => False
theorem dkE_dk {ts : List (KY × T)} {P : List (KY × T) → Prop} : dkE (some (.dk true ts)) P = P ts := rfl
theorem sAppP_eq (wp : TWP) (wo : TW) : sAppP wp wo E ρ = wp ρ fun i π => lstE (tAt ρ i π) fun ts => wo ρ fun x => ts.length < sizeLine ∧ E.nx (chgAt ρ i π (.lst true (ts ++ [x]))) := by
  refine congrArg (wp ρ) (funext fun i => funext fun π => ?_)
  unfold lstE
  cases tAt ρ i π with
  | none => rfl
  | some t =>
    cases t with
    | lst m ts => cases m <;> rfl
    | _ => rfl
theorem sFldP_eq (wo : TW) (wp : TWP) (C : Addr) (f : Str) : sFldP wo wp C f E ρ = wo ρ fun x => wp ρ fun i π => insE (tAt ρ i π) fun m C' fs => m = true ∧ C' = C ∧ fs.length < 1000 ∧ E.nx (chgAt ρ i π (.ins true C' (putT f x fs))) := by
  unfold sFldP
  congr 1; funext x; congr 1; funext i π
  unfold insE
  cases tAt ρ i π with
  | none => rfl
  | some t =>
    cases t with
    | ins m C fs => cases m <;> simp
    | _ => rfl
theorem sSd_eq (wp : TWP) (wk : TW) (W : Nat → List PStep → List T → Rho → Prop) : sSd wp wk W ρ = wp ρ fun i π => dkE (tAt ρ i π) fun kvs => wk ρ (asD fun d => optP (keyD d) fun k => kvs.length < sizeLine ∧ lstE (tAt (sdRho ρ i π kvs k) i (π ++ [.key k])) fun ts => W i (π ++ [.key k]) ts (sdRho ρ i π kvs k)) := by
  refine congrArg (wp ρ) (funext fun i => funext fun π => ?_)
  unfold dkE
  cases tAt ρ i π with
  | none => rfl
  | some t =>
    cases t with
    | dk m kvs =>
      cases m with
      | false => rfl
      | true =>
        show wk ρ _ = wk ρ _
        refine congrArg (wk ρ) (congrArg asD (funext fun d => congrArg (optP (keyD d)) (funext fun k => congrArg (And (kvs.length < sizeLine)) ?_)))
        unfold lstE
        cases tAt (sdRho ρ i π kvs k) i (π ++ [.key k]) with
        | none => rfl
        | some t =>
          cases t with
          | lst m ts => cases m <;> rfl
          | _ => rfl
    | _ => rfl
theorem tAt_eq (i : Nat) (π : List PStep) : tAt ρ i π = (look ρ i).bind (T.at π) := rfl
theorem at_nil (t : T) : T.at [] t = some t := rfl
theorem at_cons (s : PStep) (π : List PStep) (t : T) : T.at (s :: π) t = (t.get s).bind (T.at π) := by
  show (match t.get s with
    | some c => T.at π c
    | none => none) = _
  cases t.get s <;> rfl
theorem get_fld (f : Str) (m : Bool) (C : Addr) (fs : List (Str × T)) : T.get (.fld f) (.ins m C fs) = getK fs f := rfl
theorem get_key (k : KY) (m : Bool) (kvs : List (KY × T)) : T.get (.key k) (.dk m kvs) = getK kvs k := rfl
theorem get_keyT (k : List KY) (m : Bool) (kvs : List (List KY × T)) : T.get (.keyT k) (.dt m kvs) = getK kvs k := rfl
theorem get_ix (n : Nat) (m : Bool) (ts : List T) : T.get (.ix n) (.lst m ts) = ts[n]? := rfl
theorem chgAt_eq (i : Nat) (π : List PStep) (t' : T) : chgAt ρ i π t' = match look ρ i with
  | some t => ρ.set i (some (T.upd π t t'))
  | none => ρ := rfl
theorem upd_nil (t t' : T) : T.upd [] t t' = t' := rfl
theorem upd_fld (f : Str) (π : List PStep) (m : Bool) (C : Addr) (fs : List (Str × T)) (c t' : T) (h : getK fs f = some c) : T.upd (.fld f :: π) (.ins m C fs) t' = .ins m C (setK f (T.upd π c t') fs) := by
  show (match T.get (.fld f) (.ins m C fs) with
    | some c => T.put (.fld f) (.ins m C fs) (T.upd π c t')
    | none => .ins m C fs) = _
  rw [get_fld, h]; rfl
theorem upd_key (k : KY) (π : List PStep) (m : Bool) (kvs : List (KY × T)) (c t' : T) (h : getK kvs k = some c) : T.upd (.key k :: π) (.dk m kvs) t' = .dk m (setK k (T.upd π c t') kvs) := by
  show (match T.get (.key k) (.dk m kvs) with
    | some c => T.put (.key k) (.dk m kvs) (T.upd π c t')
    | none => .dk m kvs) = _
  rw [get_key, h]; rfl
theorem putAt_dkS (kvs : List (KY × T)) (l : List Nat) (x : T) : putAt (.dk true kvs) (.fr (.str l)) x = some (.dk true (putT (.inr l) x kvs)) := rfl
theorem putAt_dkI (kvs : List (KY × T)) (i : Int) (x : T) : putAt (.dk true kvs) (.fr (.int i)) x = some (.dk true (putT (.inl i) x kvs)) := rfl
theorem putAt_lst (ts : List T) (i : Int) (x : T) : putAt (.lst true ts) (.fr (.int i)) x = (ixN ts.length i).map fun n => .lst true (ts.set n x) := rfl
theorem roomy_dk (m : Bool) (kvs : List (KY × T)) : roomy (.dk m kvs) = (kvs.length < sizeLine) := rfl
theorem roomy_lst (m : Bool) (ts : List T) : roomy (.lst m ts) = True := rfl
theorem step_dkS (m : Bool) (kvs : List (KY × T)) (l : List Nat) : stepOf (.dk m kvs) (.fr (.str l)) = if (getK kvs (.inr l)).isSome = true then some (.key (.inr l)) else none := rfl
theorem step_lst (m : Bool) (ts : List T) (i : Int) : stepOf (.lst m ts) (.fr (.int i)) = (ixN ts.length i).map .ix := rfl
theorem oFld_ins (C : Addr) (f : Str) (C' : Addr) (fs : List (Str × D)) : oFld C f (.fr (.ins C' fs)) P = (C' = C ∧ optP (getK fs f) fun d => P (.fr d)) := rfl
theorem oFld_own (C : Addr) (f : Str) (m : Bool) (C' : Addr) (fs : List (Str × T)) : oFld C f (.ins m C' fs) P = (C' = C ∧ optP (getK fs f) P) := rfl
theorem isSt_str (l : List Nat) : isSt (.fr (.str l)) = True := rfl
theorem oSplit_1 (l : List Nat) (c : Nat) : oSplit (.fr (.str l)) (.fr (.str [c])) P = (l.length + 2 ≤ sizeLine ∧ P (.fr (.lst ((splitC c l).map D.str)))) := rfl
theorem oStarts_str (l p : List Nat) : oStarts (.fr (.str l)) (.fr (.str p)) P = P (.fr (.bl (startsC l p))) := rfl
theorem oJoin_str (s : List Nat) (t : T) : oJoin (.fr (.str s)) t P = optP ((seqD t).bind strsD) fun ls => (ls.map (·.length)).sum + ls.length * s.length ≤ 16777216 ∧ P (.fr (.str (joinL s ls))) := rfl
theorem seqD_lst (ds : List D) : seqD (.fr (.lst ds)) = some ds := by
  unfold seqD elems
  induction ds with
  | nil => rfl
  | cons d ds ih =>
    show frs (.fr d :: ds.map .fr) = _
    unfold frs
    have : frs (ds.map .fr) = some ds := ih
    rw [this]
theorem strsD_map (ls : List (List Nat)) : strsD (ls.map D.str) = some ls := by
  induction ls with
  | nil => rfl
  | cons l ls ih => show (strsD (ls.map D.str)).map (l :: ·) = _; rw [ih]; rfl
theorem strsD_nil : strsD [] = some [] := rfl
theorem strsD_cons (l : List Nat) (ds : List D) : strsD (.str l :: ds) = (strsD ds).map (l :: ·) := rfl
theorem oIntV_str (l : List Nat) : oIntV (.fr (.str l)) P = (allDig l = true ∧ l ≠ [] ∧ l.length ≤ 640 ∧ P (.fr (.int (NumText.digitsVal l : Nat)))) := rfl
theorem oIntV_int (i : Int) : oIntV (.fr (.int i)) P = P (.fr (.int i)) := rfl
theorem oIntV_bl (b : Bool) : oIntV (.fr (.bl b)) P = P (.fr (.int (if b then 1 else 0))) := rfl
theorem tyT_non : tyT (.fr .non) = some .non := rfl
theorem tyT_bl (b : Bool) : tyT (.fr (.bl b)) = some .bool := rfl
theorem tyT_int (b : Int) : tyT (.fr (.int b)) = some .int := rfl
theorem tyT_str (b : List Nat) : tyT (.fr (.str b)) = some .str := rfl
theorem tyT_lst (b : List D) : tyT (.fr (.lst b)) = some .list := rfl
theorem tyT_tup (b : List D) : tyT (.fr (.tup b)) = some .tuple := rfl
theorem frz_fr (d : D) : T.frz (.fr d) = some d := by unfold T.frz; rfl
theorem frzs_frs (ds : List D) : T.frzs (ds.map .fr) = some ds := by
  induction ds with
  | nil => unfold T.frzs; rfl
  | cons d ds ih => show T.frzs (.fr d :: ds.map .fr) = _; unfold T.frzs; rw [frz_fr, ih]
theorem frz_lst (ds : List D) : T.frz (.lst true (ds.map .fr)) = some (.lst ds) := by unfold T.frz; rw [if_pos rfl, frzs_frs]; rfl
def frK {κ : Type} (kvs : List (κ × D)) : List (κ × T) := kvs.map fun p => (p.1, .fr p.2)
theorem frzk_fr (kvs : List (KY × D)) : T.frzk (frK kvs) = some kvs := by
  induction kvs with
  | nil => unfold T.frzk; rfl
  | cons d ds ih => show T.frzk ((d.1, .fr d.2) :: frK ds) = _; unfold T.frzk; rw [frz_fr, ih]
theorem frz_dk (kvs : List (KY × D)) : T.frz (.dk true (frK kvs)) = some (.dk kvs) := by unfold T.frz; rw [if_pos rfl, frzk_fr]; rfl
theorem frzk_nil : T.frzk [] = some [] := by unfold T.frzk; rfl
theorem frzk_cons (k : KY) (t : T) (r : List (KY × T)) : T.frzk ((k, t) :: r) = (t.frz).bind fun d => (T.frzk r).map ((k, d) :: ·) := by
  rw [T.frzk]; cases t.frz <;> cases T.frzk r <;> rfl
theorem frz_dk' (kvs : List (KY × T)) : T.frz (.dk true kvs) = (T.frzk kvs).map .dk := by unfold T.frz; rw [if_pos rfl]
theorem owns_fr (ds : List D) : T.owns (ds.map .fr) = true := by
  induction ds with
  | nil => rfl
  | cons d ds ih => show (T.own (.fr d) && T.owns (ds.map .fr)) = true; rw [ih]; rfl
theorem own_fr (d : D) : T.own (.fr d) = true := rfl
theorem own_lst (ds : List D) : T.own (.lst true (ds.map .fr)) = true := by show (true && T.owns (ds.map .fr)) = true; rw [owns_fr]; rfl
theorem ownk_fr (kvs : List (KY × D)) : T.ownk (frK kvs) = true := by
  induction kvs with
  | nil => rfl
  | cons d ds ih => show (T.own (.fr d.2) && T.ownk (frK ds)) = true; rw [ih]; rfl
theorem own_dk (kvs : List (KY × D)) : T.own (.dk true (frK kvs)) = true := by show (true && T.ownk (frK kvs)) = true; rw [ownk_fr]; rfl
theorem lends_fr (ds : List D) : T.lends (ds.map .fr) = ds.map .fr := by
  induction ds with
  | nil => rfl
  | cons d ds ih => show T.lend (.fr d) :: T.lends (ds.map .fr) = _; rw [ih]; rfl
end
end TL
set_option Elab.async false
set_option linter.all false
set_option maxRecDepth 100000
set_option maxHeartbeats 1000000
/-! TL31: typed readings. What a piece tells is a typed value; what it asks is a list of conditions. -/
namespace TL
open PySem PySem.Spec PyProof.Rows L2
abbrev Tx := List Nat
def All : List Prop → Prop
  | [] => True
  | p :: ps => p ∧ All ps
theorem all_app : ∀ {ps qs : List Prop}, All (ps ++ qs) ↔ All ps ∧ All qs
  | [], qs => by simp [All]
  | p :: ps, qs => by
    show p ∧ All (ps ++ qs) ↔ (p ∧ All ps) ∧ All qs
    rw [all_app, and_assoc]
section
variable {α β γ δ ε ζ : Type}
/-! ### how typed things stand as trees -/
def eN : Unit → D := fun _ => .non
def eL (e : α → D) (xs : List α) : D := .lst (xs.map e)
def eQ (e : α → D) (xs : List α) : D := .tup (xs.map e)
def eT1 (a : α → D) (x : α) : D := .tup [a x]
def eT2 (a : α → D) (b : β → D) (x : α × β) : D := .tup [a x.1, b x.2]
def eT3 (a : α → D) (b : β → D) (c : γ → D) (x : α × β × γ) : D := .tup [a x.1, b x.2.1, c x.2.2]
def eT4 (a : α → D) (b : β → D) (c : γ → D) (d : δ → D) (x : α × β × γ × δ) : D := .tup [a x.1, b x.2.1, c x.2.2.1, d x.2.2.2]
def eT5 (a : α → D) (b : β → D) (c : γ → D) (d : δ → D) (e : ε → D) (x : α × β × γ × δ × ε) : D := .tup [a x.1, b x.2.1, c x.2.2.1, d x.2.2.2.1, e x.2.2.2.2]
def eO (e : α → D) : Option α → D
  | none => .non
  | some x => e x
def kvS (e : α → D) (kvs : List (Tx × α)) : List (KY × D) := kvs.map fun p => (.inr p.1, e p.2)
def kvI (e : α → D) (kvs : List (Int × α)) : List (KY × D) := kvs.map fun p => (.inl p.1, e p.2)
def kvP (e : α → D) (kvs : List ((Tx × Tx) × α)) : List (List KY × D) := kvs.map fun p => ([.inr p.1.1, .inr p.1.2], e p.2)
def eDS (e : α → D) (kvs : List (Tx × α)) : D := .dk (kvS e kvs)
def eDI (e : α → D) (kvs : List (Int × α)) : D := .dk (kvI e kvs)
def eDP (e : α → D) (kvs : List ((Tx × Tx) × α)) : D := .dt (kvP e kvs)
/-- own or lent things -/
def tF (m : Bool) (e : α → D) (xs : List α) : T := .lst m ((xs.map e).map .fr)
def tL (m : Bool) (τ : α → T) (xs : List α) : T := .lst m (xs.map τ)
def ktS (τ : α → T) (kvs : List (Tx × α)) : List (KY × T) := kvs.map fun p => (.inr p.1, τ p.2)
def ktI (τ : α → T) (kvs : List (Int × α)) : List (KY × T) := kvs.map fun p => (.inl p.1, τ p.2)
def ktP (τ : α → T) (kvs : List ((Tx × Tx) × α)) : List (List KY × T) := kvs.map fun p => ([.inr p.1.1, .inr p.1.2], τ p.2)
def tDS (m : Bool) (τ : α → T) (kvs : List (Tx × α)) : T := .dk m (ktS τ kvs)
def tDI (m : Bool) (τ : α → T) (kvs : List (Int × α)) : T := .dk m (ktI τ kvs)
def tDP (m : Bool) (τ : α → T) (kvs : List ((Tx × Tx) × α)) : T := .dt m (ktP τ kvs)
abbrev fr (e : α → D) : α → T := fun x => .fr (e x)
/-! ### what a reading comes to -/
def Ep (w : TW) (ρ : Rho) (os : List Prop) (t : T) : Prop := ∀ P : T → Prop, All os → P t → w ρ P
def Eps (ws : TWs) (ρ : Rho) (os : List Prop) (ts : List T) : Prop := ∀ P : List T → Prop, All os → P ts → ws ρ P
def Eb (u : TB) (ρ : Rho) (os : List Prop) (b : Bool) : Prop := ∀ P : Bool → Prop, All os → P b → u ρ P
def Ei (wi : TWI) (ρ : Rho) (os : List Prop) (fl : Bool) (its : List T) : Prop := ∀ P : Bool → List T → Prop, All os → P fl its → wi ρ P
def Eo (w : Rho → (Option Int → Prop) → Prop) (ρ : Rho) (os : List Prop) (o : Option Int) : Prop := ∀ P : Option Int → Prop, All os → P o → w ρ P
def Op2 (o : T → T → (T → Prop) → Prop) (x y : T) (os : List Prop) (t : T) : Prop := ∀ P : T → Prop, All os → P t → o x y P
def Op1 (o : T → (T → Prop) → Prop) (x : T) (os : List Prop) (t : T) : Prop := ∀ P : T → Prop, All os → P t → o x P
def OpN (o : List T → (T → Prop) → Prop) (xs : List T) (os : List Prop) (t : T) : Prop := ∀ P : T → Prop, All os → P t → o xs P
variable {ρ : Rho} {w wa wb wc : TW} {ws : TWs} {u u' : TB} {oa ob oc oo os : List Prop} {x y z t : T} {ts : List T} {a b c : Bool}
theorem Ep.mono {os' : List Prop} (h : Ep w ρ os t) (i : All os' → All os) : Ep w ρ os' t := fun P o p => h P (i o) p
theorem ep_var {i : Nat} (h : look ρ i = some t) : Ep (wVar i) ρ [] t := fun P _ p => by
  unfold wVar; rw [h]; exact p
theorem ep_c {d : D} : Ep (wC d) ρ [] (.fr d) := fun P _ p => p
theorem ep2 {o : T → T → (T → Prop) → Prop} (ha : Ep wa ρ oa x) (hb : Ep wb ρ ob y) (h : Op2 o x y oo t) : Ep (w2 o wa wb) ρ (oa ++ (ob ++ oo)) t := fun P q p => by
  obtain ⟨q1, q2⟩ := all_app.mp q
  obtain ⟨q2, q3⟩ := all_app.mp q2
  exact ha _ q1 (hb _ q2 (h _ q3 p))
theorem ep1 {o : T → (T → Prop) → Prop} (ha : Ep wa ρ oa x) (h : Op1 o x oo t) : Ep (w1 o wa) ρ (oa ++ oo) t := fun P q p => by
  obtain ⟨q1, q2⟩ := all_app.mp q
  exact ha _ q1 (h _ q2 p)
theorem eps_nil : Eps wNil ρ [] [] := fun P _ p => p
theorem eps_cons (h : Ep w ρ oa t) (r : Eps ws ρ ob ts) : Eps (wCons w ws) ρ (oa ++ ob) (t :: ts) := fun P q p => by
  obtain ⟨q1, q2⟩ := all_app.mp q
  exact h _ q1 (r _ q2 p)
theorem epn {o : List T → (T → Prop) → Prop} (h : Eps ws ρ oa ts) (k : OpN o ts oo t) : Ep (wN o ws) ρ (oa ++ oo) t := fun P q p => by
  obtain ⟨q1, q2⟩ := all_app.mp q
  exact h _ q1 (k _ q2 p)
theorem ep_fn {n : Nat} {S : List T → (D → Prop) → Prop} {ts' : List T} {d : D} (h : Eps ws ρ oa ts) (hl : T.lends ts = ts') (hn : ts.length = n) (k : ∀ P : D → Prop, All oo → P d → S ts' P) : Ep (wCall n S ws) ρ (oa ++ oo) (.fr d) := fun P q p => by
  obtain ⟨q1, q2⟩ := all_app.mp q
  exact h _ q1 ⟨hn, by rw [hl]; exact k _ q2 p⟩
/-! ### tests -/
theorem eb_val (h : Ep w ρ os (.fr (.bl b))) : Eb (tst w) ρ os b := fun P q p => h _ q p
theorem eb_not (h : Eb u ρ os b) : Eb (bNot u) ρ os (!b) := fun P q p => h _ q p
theorem eb_and (h : Eb u ρ oa a) (k : Eb u' ρ [] b) : Eb (bAnd u u') ρ oa (a && b) := fun P q p => h _ q (by
  cases a with
  | true => exact k _ trivial p
  | false => exact p)
theorem eb_andO (h : Eb u ρ oa a) (k : Eb u' ρ ob b) : Eb (bAnd u u') ρ (oa ++ [a = true → All ob]) (a && b) := fun P q p => by
  obtain ⟨q1, q2, _⟩ := all_app.mp q
  refine h _ q1 ?_
  cases a with
  | true => exact k _ (q2 rfl) p
  | false => exact p
theorem eb_or (h : Eb u ρ oa a) (k : Eb u' ρ [] b) : Eb (bOr u u') ρ oa (a || b) := fun P q p => h _ q (by
  cases a with
  | false => exact k _ trivial p
  | true => exact p)
theorem eb_orO (h : Eb u ρ oa a) (k : Eb u' ρ ob b) : Eb (bOr u u') ρ (oa ++ [a = false → All ob]) (a || b) := fun P q p => by
  obtain ⟨q1, q2, _⟩ := all_app.mp q
  refine h _ q1 ?_
  cases a with
  | false => exact k _ (q2 rfl) p
  | true => exact p
theorem ep_not (h : Ep w ρ os (.fr (.bl b))) : Ep (vNot w) ρ os (.fr (.bl (!b))) := fun P q p => h _ q p
theorem ep_and (h : Ep wa ρ oa (.fr (.bl a))) (k : Ep wb ρ [] (.fr (.bl b))) : Ep (vAnd wa wb) ρ oa (.fr (.bl (a && b))) := fun P q p => h _ q (by
  show if a = true then wb ρ P else P (.fr (.bl false))
  cases a with
  | true => exact k _ trivial p
  | false => exact p)
theorem ep_andO (h : Ep wa ρ oa (.fr (.bl a))) (k : Ep wb ρ ob (.fr (.bl b))) : Ep (vAnd wa wb) ρ (oa ++ [a = true → All ob]) (.fr (.bl (a && b))) := fun P q p => by
  obtain ⟨q1, q2, _⟩ := all_app.mp q
  refine h _ q1 ?_
  show if a = true then wb ρ P else P (.fr (.bl false))
  cases a with
  | true => exact k _ (q2 rfl) p
  | false => exact p
theorem ep_or (h : Ep wa ρ oa (.fr (.bl a))) (k : Ep wb ρ [] (.fr (.bl b))) : Ep (vOr wa wb) ρ oa (.fr (.bl (a || b))) := fun P q p => h _ q (by
  show if a = true then P (.fr (.bl true)) else wb ρ P
  cases a with
  | false => exact k _ trivial p
  | true => exact p)
theorem ep_orO (h : Ep wa ρ oa (.fr (.bl a))) (k : Ep wb ρ ob (.fr (.bl b))) : Ep (vOr wa wb) ρ (oa ++ [a = false → All ob]) (.fr (.bl (a || b))) := fun P q p => by
  obtain ⟨q1, q2, _⟩ := all_app.mp q
  refine h _ q1 ?_
  show if a = true then P (.fr (.bl true)) else wb ρ P
  cases a with
  | false => exact k _ (q2 rfl) p
  | true => exact p
theorem ep_if {τ : α → T} {v v' : α} (hc : Eb u ρ oc c) (ha : Ep wa ρ [] (τ v)) (hb : Ep wb ρ [] (τ v')) : Ep (wIfE u wa wb) ρ oc (τ (if c = true then v else v')) := fun P q p => hc _ q (by
  cases c with
  | true => exact ha _ trivial p
  | false => exact hb _ trivial p)
theorem ep_ifO {τ : α → T} {v v' : α} (hc : Eb u ρ oc c) (ha : Ep wa ρ oa (τ v)) (hb : Ep wb ρ ob (τ v')) : Ep (wIfE u wa wb) ρ (oc ++ [if c = true then All oa else All ob]) (τ (if c = true then v else v')) := fun P q p => by
  obtain ⟨q1, q2, _⟩ := all_app.mp q
  refine hc _ q1 ?_
  cases c with
  | true => exact ha _ q2 p
  | false => exact hb _ q2 p
/-- a < b < c -/
theorem ep_chain {o o' : T → T → (T → Prop) → Prop} (ha : Ep wa ρ oa x) (hb : Ep wb ρ ob y) (hc : Ep wc ρ [] z) (h : Op2 o x y [] (.fr (.bl a))) (h' : Op2 o' y z [] (.fr (.bl b))) : Ep (wChain o o' wa wb wc) ρ (oa ++ ob) (.fr (.bl (a && b))) := fun P q p => by
  obtain ⟨q1, q2⟩ := all_app.mp q
  refine ha _ q1 (hb _ q2 (h _ trivial ?_))
  show if a = true then _ else _
  cases a with
  | true => exact hc _ trivial (h' _ trivial p)
  | false => exact p
/-! ### operations -/
theorem o_add {i j : Int} : Op2 oAdd (.fr (.int i)) (.fr (.int j)) [] (.fr (.int (i + j))) := fun P _ p => p
theorem o_addS {i j : Tx} : Op2 oAdd (.fr (.str i)) (.fr (.str j)) [i.length + j.length ≤ sizeLine] (.fr (.str (i ++ j))) := fun P q p => ⟨q.1, p⟩
theorem o_addL {e : α → D} {i j : List α} : Op2 oAdd (.fr (eL e i)) (.fr (eL e j)) [i.length + j.length ≤ sizeLine] (.fr (eL e (i ++ j))) := fun P q p => by
  show _ ∧ P _
  rw [List.length_map, List.length_map]
  exact ⟨q.1, by unfold eL at p; rw [List.map_append] at p; exact p⟩
theorem o_sub {i j : Int} : Op2 oSub (.fr (.int i)) (.fr (.int j)) [] (.fr (.int (i - j))) := fun P _ p => p
theorem o_I {C : Int → Int → Prop} {g : Int → Int → D} {i j : Int} : Op2 (oI C g) (.fr (.int i)) (.fr (.int j)) [C i j] (.fr (g i j)) := fun P q p => ⟨q.1, p⟩
theorem o_I' {C : Int → Int → Prop} {g : Int → Int → D} {i j : Int} (h : C i j) : Op2 (oI C g) (.fr (.int i)) (.fr (.int j)) [] (.fr (g i j)) := fun P q p => ⟨h, p⟩
theorem o_I0 {g : Int → Int → D} {i j : Int} : Op2 (oI0 g) (.fr (.int i)) (.fr (.int j)) [] (.fr (g i j)) := fun P q p => p
theorem cmul_r {i : Int} (j : Int) (h : decide (-(2 ^ 64) < j ∧ j < 2 ^ 64) = true := by decide) : CMul i j := .inr (of_decide_eq_true h)
theorem cmul_l {j : Int} (i : Int) (h : decide (-(2 ^ 64) < i ∧ i < 2 ^ 64) = true := by decide) : CMul i j := .inl (of_decide_eq_true h)
theorem o_neg {i : Int} : Op1 oNeg (.fr (.int i)) [] (.fr (.int (-i))) := fun P _ p => p
/-- == -/
structure EqE (n : Nat) (e : α → D) [DecidableEq α] : Prop where
  ok : ∀ k x, n ≤ k → okP k (e x) = true
  eq : ∀ x y, eqD (e x) (e y) = decide (x = y)
theorem eq_int : EqE 0 D.int := ⟨fun _ _ _ => okP_int _ _, eqD_int⟩
theorem eq_str : EqE 0 D.str := ⟨fun _ _ _ => okP_str _ _, eqD_str⟩
theorem eq_bl : EqE 0 D.bl := ⟨fun _ _ _ => okP_bl _ _, eqD_bl⟩
section
variable [DecidableEq α] [DecidableEq β] [DecidableEq γ] [DecidableEq δ] {e ea : α → D} {eb : β → D} {ec : γ → D} {ed : δ → D} {n na nb nc nd : Nat}
theorem eqL_map (h : ∀ x y, eqD (e x) (e y) = decide (x = y)) : ∀ xs ys : List α, eqD (.lst (xs.map e)) (.lst (ys.map e)) = decide (xs = ys)
  | [], ys => by rw [List.map_nil, eqD_lst_nil]; cases ys <;> simp
  | x :: xs, [] => by rw [List.map_nil, eqD_lst_nil']; simp
  | x :: xs, y :: ys => by
    rw [List.map_cons, List.map_cons, eqD_lst_cons, eqL_map h xs ys, h, Bool.eq_iff_iff]
    simp
theorem okP_all {k : Nat} (h : ∀ x, okP k (e x) = true) (xs : List α) : (xs.map e).all (okP k) = true := by
  rw [List.all_map, List.all_eq_true]
  intro x _
  exact h x
theorem eq_L (h : EqE n e) : EqE (n + 1) (eL e) := ⟨fun k xs hk => by
  cases k with
  | zero => omega
  | succ k => rw [eL, okP_lst]; exact okP_all (fun x => h.ok k x (by omega)) xs, fun x y => eqL_map h.eq x y⟩
theorem eq_Q (h : EqE n e) : EqE (n + 1) (eQ e) := ⟨fun k xs hk => by
  cases k with
  | zero => omega
  | succ k => rw [eQ, okP_tup]; exact okP_all (fun x => h.ok k x (by omega)) xs, fun x y => by rw [eQ, eQ, eqD_tup_lst]; exact eqL_map h.eq x y⟩
theorem eq_T2 (ha : EqE na ea) (hb : EqE nb eb) : EqE (max na nb + 1) (eT2 ea eb) := ⟨fun k x hk => by
  cases k with
  | zero => omega
  | succ k => rw [eT2, okP_tup]; simp [ha.ok k x.1 (by omega), hb.ok k x.2 (by omega)], fun x y => by
    rw [eT2, eT2, eqD_tup_lst, eqD_lst_cons, eqD_lst_cons, eqD_lst_nil, ha.eq, hb.eq, Bool.eq_iff_iff]
    simp [Prod.ext_iff]⟩
theorem eq_T3 (ha : EqE na ea) (hb : EqE nb eb) (hc : EqE nc ec) : EqE (max na (max nb nc) + 1) (eT3 ea eb ec) := ⟨fun k x hk => by
  cases k with
  | zero => omega
  | succ k => rw [eT3, okP_tup]; simp [ha.ok k x.1 (by omega), hb.ok k x.2.1 (by omega), hc.ok k x.2.2 (by omega)], fun x y => by
    rw [eT3, eT3, eqD_tup_lst, eqD_lst_cons, eqD_lst_cons, eqD_lst_cons, eqD_lst_nil, ha.eq, hb.eq, hc.eq, Bool.eq_iff_iff]
    simp [Prod.ext_iff]⟩
theorem eq_T4 (ha : EqE na ea) (hb : EqE nb eb) (hc : EqE nc ec) (hd : EqE nd ed) : EqE (max na (max nb (max nc nd)) + 1) (eT4 ea eb ec ed) := ⟨fun k x hk => by
  cases k with
  | zero => omega
  | succ k => rw [eT4, okP_tup]; simp [ha.ok k x.1 (by omega), hb.ok k x.2.1 (by omega), hc.ok k x.2.2.1 (by omega), hd.ok k x.2.2.2 (by omega)], fun x y => by
    rw [eT4, eT4, eqD_tup_lst, eqD_lst_cons, eqD_lst_cons, eqD_lst_cons, eqD_lst_cons, eqD_lst_nil, ha.eq, hb.eq, hc.eq, hd.eq, Bool.eq_iff_iff]
    simp [Prod.ext_iff]⟩
/-- never None -/
structure NN (e : α → D) : Prop where
  a : ∀ x, eqD .non (e x) = false
  b : ∀ x, eqD (e x) .non = false
  c : ∀ x, isNon (.fr (e x)) = false
theorem nn_int : NN D.int := ⟨fun _ => rfl, fun _ => rfl, fun _ => rfl⟩
theorem nn_str : NN D.str := ⟨fun _ => rfl, fun _ => rfl, fun _ => rfl⟩
theorem nn_bl : NN D.bl := ⟨fun _ => rfl, fun _ => rfl, fun _ => rfl⟩
theorem nn_L {e : α → D} : NN (eL e) := ⟨fun _ => rfl, fun _ => rfl, fun _ => rfl⟩
theorem nn_Q {e : α → D} : NN (eQ e) := ⟨fun _ => rfl, fun _ => rfl, fun _ => rfl⟩
theorem nn_T2 {a : α → D} {b : β → D} : NN (eT2 a b) := ⟨fun _ => rfl, fun _ => rfl, fun _ => rfl⟩
theorem nn_T3 {a : α → D} {b : β → D} {c : γ → D} : NN (eT3 a b c) := ⟨fun _ => rfl, fun _ => rfl, fun _ => rfl⟩
theorem nn_T4 {a : α → D} {b : β → D} {c : γ → D} {d : δ → D} : NN (eT4 a b c d) := ⟨fun _ => rfl, fun _ => rfl, fun _ => rfl⟩
theorem eq_O (h : EqE n e) (nn : NN e) : EqE n (eO e) := ⟨fun k x hk => by
  cases x with
  | none => exact okP_non _
  | some x => exact h.ok k x hk, fun x y => by
    cases x with
    | none => cases y with
      | none => rfl
      | some y => rw [show eO e none = .non from rfl, show eO e (some y) = e y from rfl, nn.a]; simp
    | some x => cases y with
      | none => rw [show eO e none = .non from rfl, show eO e (some x) = e x from rfl, nn.b]; simp
      | some y => rw [show eO e (some x) = e x from rfl, show eO e (some y) = e y from rfl, h.eq, Bool.eq_iff_iff]; simp⟩
theorem o_eq (h : EqE n e) (x y : α) (hn : n ≤ 60 := by decide) : Op2 oEq (.fr (e x)) (.fr (e y)) [] (.fr (.bl (decide (x = y)))) := fun P _ p => ⟨h.ok 60 x hn, h.ok 60 y hn, by
  show P (.fr (.bl (eqD (e x) (e y))))
  rw [h.eq]; exact p⟩
theorem o_ne (h : EqE n e) (x y : α) (hn : n ≤ 60 := by decide) : Op2 oNe (.fr (e x)) (.fr (e y)) [] (.fr (.bl (!decide (x = y)))) := fun P _ p => ⟨h.ok 60 x hn, h.ok 60 y hn, by
  show P (.fr (.bl (!eqD (e x) (e y))))
  rw [h.eq]; exact p⟩
/-- .. of own or lent lists -/
theorem toD_tF {m : Bool} {e : α → D} {xs : List α} : (tF m e xs).toD = eL e xs := by
  unfold tF eL
  rw [T.toD, toDs_fr]
theorem o_eqF (h : EqE n e) (m : Bool) (x y : List α) (hn : n + 1 ≤ 60 := by decide) : Op2 oEq (tF m e x) (.fr (eL e y)) [] (.fr (.bl (decide (x = y)))) := fun P _ p => by
  unfold oEq
  rw [toD_tF]
  exact o_eq (eq_L h) x y hn P trivial p
theorem o_neF (h : EqE n e) (m : Bool) (x y : List α) (hn : n + 1 ≤ 60 := by decide) : Op2 oNe (tF m e x) (.fr (eL e y)) [] (.fr (.bl (!decide (x = y)))) := fun P _ p => by
  unfold oNe
  rw [toD_tF]
  exact o_ne (eq_L h) x y hn P trivial p
theorem o_neF' (h : EqE n e) (m : Bool) (x y : List α) (hn : n + 1 ≤ 60 := by decide) : Op2 oNe (.fr (eL e x)) (tF m e y) [] (.fr (.bl (!decide (x = y)))) := fun P _ p => by
  unfold oNe
  rw [toD_tF]
  exact o_ne (eq_L h) x y hn P trivial p
/-- None -/
theorem o_isN (h : NN e) (x : Option α) : Op2 oIsN (.fr (eO e x)) (.fr .non) [] (.fr (.bl x.isNone)) := fun P _ p => ⟨rfl, by
  cases x with
  | none => exact p
  | some x => show P (.fr (.bl (isNon (.fr (e x))))); rw [h.c]; exact p⟩
theorem o_notN (h : NN e) (x : Option α) : Op2 oNotN (.fr (eO e x)) (.fr .non) [] (.fr (.bl x.isSome)) := fun P _ p => ⟨rfl, by
  cases x with
  | none => exact p
  | some x => show P (.fr (.bl (!isNon (.fr (e x))))); rw [h.c]; exact p⟩
end
/-! ### lists and tuples that are read -/
structure IsL (t : T) (τ : α → T) (xs : List α) (fl : Bool) : Prop where
  el : ∃ l, elems t = some (l, xs.map τ)
  fl : t.lentB = fl
structure IsLL (t : T) (τ : α → T) (xs : List α) (fl : Bool) : Prop where
  el : elems t = some (true, xs.map τ)
  fl : t.lentB = fl
theorem IsLL.is {t : T} {τ : α → T} {xs : List α} {fl : Bool} (h : IsLL t τ xs fl) : IsL t τ xs fl := ⟨⟨true, h.el⟩, h.fl⟩
theorem mm {e : α → D} {xs : List α} : (xs.map e).map T.fr = xs.map (fr e) := List.map_map
theorem il_L {e : α → D} {xs : List α} : IsLL (.fr (eL e xs)) (fr e) xs true := ⟨by show some (true, (xs.map e).map T.fr) = _; rw [mm], lent_fr _⟩
theorem il_Q {e : α → D} {xs : List α} : IsL (.fr (eQ e xs)) (fr e) xs true := ⟨⟨false, by show some (false, (xs.map e).map T.fr) = _; rw [mm]⟩, lent_fr _⟩
theorem il_S {ns : List Int} : IsLL (.fr (.scr ns)) (fr D.int) ns true := ⟨rfl, lent_fr _⟩
theorem il_F {e : α → D} {xs : List α} : IsLL (tF false e xs) (fr e) xs true := ⟨by show some (true, (xs.map e).map T.fr) = _; rw [mm], lent_own_false _⟩
theorem il_O {e : α → D} {xs : List α} : IsLL (tF true e xs) (fr e) xs (tF true e xs).lentB := ⟨by show some (true, (xs.map e).map T.fr) = _; rw [mm], rfl⟩
theorem il_T {m : Bool} {τ : α → T} {xs : List α} : IsLL (tL m τ xs) τ xs (tL m τ xs).lentB := ⟨rfl, rfl⟩
theorem il_2 {e : α → D} {x y : α} : IsL (.fr (.tup [e x, e y])) (fr e) [x, y] true := ⟨⟨false, rfl⟩, lent_fr _⟩
theorem o_len {τ : α → T} {xs : List α} {fl : Bool} (h : IsL t τ xs fl) : OpN oLen [t] [] (.fr (.int (xs.length : Int))) := fun P _ p => by
  obtain ⟨l, e⟩ := h.el
  show match lenT t with | some n => P (.fr (.int n)) | none => False
  unfold lenT
  rw [e]
  show P _
  rw [List.length_map]; exact p
theorem o_lenS {l : Tx} : OpN oLen [.fr (.str l)] [] (.fr (.int (l.length : Int))) := fun P _ p => by rw [oLen_str]; exact p
theorem o_ix {τ : α → T} {xs : List α} {fl : Bool} [Inhabited α] (h : IsL t τ xs fl) (i : Int) : Op2 oIx t (.fr (.int i)) [(atI xs i).isSome = true] (τ ((atI xs i).getD default)) := fun P q p => by
  obtain ⟨l, e⟩ := h.el
  have q := q.1
  show oIx t (.fr (.int i)) P
  unfold oIx
  rw [e]
  show match atI (xs.map τ) i with | some t => P t | none => False
  rw [atI_map]
  cases hx : atI xs i with
  | none => rw [hx] at q; cases q
  | some v => rw [hx] at p; exact p
theorem o_ixS {l : Tx} (i : Int) : Op2 oIx (.fr (.str l)) (.fr (.int i)) [(atI l i).isSome = true] (.fr (.str [(atI l i).getD default])) := fun P q p => by
  have q := q.1
  rw [oIx_str]
  cases hx : atI l i with
  | none => rw [hx] at q; cases q
  | some v => rw [hx] at p; exact p
theorem o_t2_0 {a : α → D} {b : β → D} {x : α × β} : Op2 oIx (.fr (eT2 a b x)) (.fr (.int 0)) [] (.fr (a x.1)) := fun P _ p => p
theorem o_t2_1 {a : α → D} {b : β → D} {x : α × β} : Op2 oIx (.fr (eT2 a b x)) (.fr (.int 1)) [] (.fr (b x.2)) := fun P _ p => p
theorem o_t3_0 {a : α → D} {b : β → D} {c : γ → D} {x : α × β × γ} : Op2 oIx (.fr (eT3 a b c x)) (.fr (.int 0)) [] (.fr (a x.1)) := fun P _ p => p
theorem o_t3_1 {a : α → D} {b : β → D} {c : γ → D} {x : α × β × γ} : Op2 oIx (.fr (eT3 a b c x)) (.fr (.int 1)) [] (.fr (b x.2.1)) := fun P _ p => p
theorem o_t3_2 {a : α → D} {b : β → D} {c : γ → D} {x : α × β × γ} : Op2 oIx (.fr (eT3 a b c x)) (.fr (.int 2)) [] (.fr (c x.2.2)) := fun P _ p => p
theorem o_t4_0 {a : α → D} {b : β → D} {c : γ → D} {d : δ → D} {x : α × β × γ × δ} : Op2 oIx (.fr (eT4 a b c d x)) (.fr (.int 0)) [] (.fr (a x.1)) := fun P _ p => p
theorem o_t4_1 {a : α → D} {b : β → D} {c : γ → D} {d : δ → D} {x : α × β × γ × δ} : Op2 oIx (.fr (eT4 a b c d x)) (.fr (.int 1)) [] (.fr (b x.2.1)) := fun P _ p => p
theorem o_t4_2 {a : α → D} {b : β → D} {c : γ → D} {d : δ → D} {x : α × β × γ × δ} : Op2 oIx (.fr (eT4 a b c d x)) (.fr (.int 2)) [] (.fr (c x.2.2.1)) := fun P _ p => p
theorem o_t4_3 {a : α → D} {b : β → D} {c : γ → D} {d : δ → D} {x : α × β × γ × δ} : Op2 oIx (.fr (eT4 a b c d x)) (.fr (.int 3)) [] (.fr (d x.2.2.2)) := fun P _ p => p
/-! ### in -/
structure FlE (e : α → D) [DecidableEq α] : Prop where
  fl : ∀ x, flatD (e x) = true
  eq : ∀ x y, eqD (e x) (e y) = decide (x = y)
theorem fl_int : FlE D.int := ⟨fun _ => rfl, eqD_int⟩
theorem fl_str : FlE D.str := ⟨fun _ => rfl, eqD_str⟩
theorem fl_O [DecidableEq α] {e : α → D} {n : Nat} (f : FlE e) (h : EqE n e) (nn : NN e) : FlE (eO e) := ⟨fun x => by
  cases x with
  | none => rfl
  | some x => exact f.fl x, (eq_O h nn).eq⟩
def memB [DecidableEq α] (x : α) (xs : List α) : Bool := decide (x ∈ xs)
theorem memB_eq [DecidableEq α] (x : α) (xs : List α) : memB x xs = decide (x ∈ xs) := rfl
theorem any_eq [DecidableEq α] (x : α) (xs : List α) : (xs.any fun y => decide (y = x)) = decide (x ∈ xs) := by
  rw [Bool.eq_iff_iff]; simp
theorem o_in [DecidableEq α] {e : α → D} {xs : List α} {fl : Bool} (f : FlE e) (h : IsL t (fr e) xs fl) (x : α) : Op2 oIn (.fr (e x)) t [] (.fr (.bl (memB x xs))) := fun P _ p => by
  obtain ⟨l, el⟩ := h.el
  rw [oIn_seq l (e x) t (xs.map e) (by rw [el, mm])]
  refine ⟨f.fl x, by rw [List.all_map, List.all_eq_true]; exact fun y _ => f.fl y, ?_⟩
  rw [List.any_map]
  have : ((fun d => eqD d (e x)) ∘ e) = fun y => decide (y = x) := funext fun y => f.eq y x
  rw [this, any_eq]; exact p
theorem o_notIn [DecidableEq α] {e : α → D} {xs : List α} {fl : Bool} (f : FlE e) (h : IsL t (fr e) xs fl) (x : α) : Op2 oNotIn (.fr (e x)) t [] (.fr (.bl (!memB x xs))) := fun P _ p => by
  obtain ⟨l, el⟩ := h.el
  rw [oNotIn_seq l (e x) t (xs.map e) (by rw [el, mm])]
  refine ⟨f.fl x, by rw [List.all_map, List.all_eq_true]; exact fun y _ => f.fl y, ?_⟩
  rw [List.any_map]
  have : ((fun d => eqD d (e x)) ∘ e) = fun y => decide (y = x) := funext fun y => f.eq y x
  rw [this, any_eq]; exact p
theorem o_inSign {c : Nat} {l : Tx} : Op2 oIn (.fr (.str [c])) (.fr (.str l)) [] (.fr (.bl (memB c l))) := fun P _ p => by rw [oIn_sign]; exact p
/-! ### dicts -/
def hasK {κ : Type} [DecidableEq κ] (kvs : List (κ × α)) (k : κ) : Bool := (getK kvs k).isSome
theorem getK_kvS {e : α → D} (k : Tx) : ∀ kvs : List (Tx × α), getK (kvS e kvs) (.inr k) = (getK kvs k).map e
  | [] => rfl
  | (k', v) :: kvs => by
    by_cases h : k' = k
    · simp [kvS, getK, h]
    · have h1 : getK (kvS e ((k', v) :: kvs)) (.inr k) = getK (kvS e kvs) (.inr k) := by simp [kvS, getK, List.find?, h]
      have h2 : getK ((k', v) :: kvs) k = getK kvs k := by simp [getK, List.find?, h]
      rw [h1, h2, getK_kvS k kvs]
theorem getK_kvI {e : α → D} (k : Int) : ∀ kvs : List (Int × α), getK (kvI e kvs) (.inl k) = (getK kvs k).map e
  | [] => rfl
  | (k', v) :: kvs => by
    by_cases h : k' = k
    · simp [kvI, getK, h]
    · have h1 : getK (kvI e ((k', v) :: kvs)) (.inl k) = getK (kvI e kvs) (.inl k) := by simp [kvI, getK, List.find?, h]
      have h2 : getK ((k', v) :: kvs) k = getK kvs k := by simp [getK, List.find?, h]
      rw [h1, h2, getK_kvI k kvs]
theorem getK_kvP {e : α → D} (k : Tx × Tx) : ∀ kvs : List ((Tx × Tx) × α), getK (kvP e kvs) [.inr k.1, .inr k.2] = (getK kvs k).map e
  | [] => rfl
  | (k', v) :: kvs => by
    by_cases h : k' = k
    · subst h; simp [kvP, getK]
    · have h3 : ¬ (k'.1 = k.1 ∧ k'.2 = k.2) := fun z => h (Prod.ext z.1 z.2)
      have h1 : getK (kvP e ((k', v) :: kvs)) [.inr k.1, .inr k.2] = getK (kvP e kvs) [.inr k.1, .inr k.2] := by simp [kvP, getK, List.find?, h3]
      have h2 : getK ((k', v) :: kvs) k = getK kvs k := by simp [getK, List.find?, h]
      rw [h1, h2, getK_kvP k kvs]
theorem getK_ktS {e : α → T} (k : Tx) : ∀ kvs : List (Tx × α), getK (ktS e kvs) (.inr k) = (getK kvs k).map e
  | [] => rfl
  | (k', v) :: kvs => by
    by_cases h : k' = k
    · simp [ktS, getK, h]
    · have h1 : getK (ktS e ((k', v) :: kvs)) (.inr k) = getK (ktS e kvs) (.inr k) := by simp [ktS, getK, List.find?, h]
      have h2 : getK ((k', v) :: kvs) k = getK kvs k := by simp [getK, List.find?, h]
      rw [h1, h2, getK_ktS k kvs]
theorem getK_ktI {e : α → T} (k : Int) : ∀ kvs : List (Int × α), getK (ktI e kvs) (.inl k) = (getK kvs k).map e
  | [] => rfl
  | (k', v) :: kvs => by
    by_cases h : k' = k
    · simp [ktI, getK, h]
    · have h1 : getK (ktI e ((k', v) :: kvs)) (.inl k) = getK (ktI e kvs) (.inl k) := by simp [ktI, getK, List.find?, h]
      have h2 : getK ((k', v) :: kvs) k = getK kvs k := by simp [getK, List.find?, h]
      rw [h1, h2, getK_ktI k kvs]
theorem getK_ktP {e : α → T} (k : Tx × Tx) : ∀ kvs : List ((Tx × Tx) × α), getK (ktP e kvs) [.inr k.1, .inr k.2] = (getK kvs k).map e
  | [] => rfl
  | (k', v) :: kvs => by
    by_cases h : k' = k
    · subst h; simp [ktP, getK]
    · have h3 : ¬ (k'.1 = k.1 ∧ k'.2 = k.2) := fun z => h (Prod.ext z.1 z.2)
      have h1 : getK (ktP e ((k', v) :: kvs)) [.inr k.1, .inr k.2] = getK (ktP e kvs) [.inr k.1, .inr k.2] := by simp [ktP, getK, List.find?, h3]
      have h2 : getK ((k', v) :: kvs) k = getK kvs k := by simp [getK, List.find?, h]
      rw [h1, h2, getK_ktP k kvs]
/-- t is a dict that has typed things at typed keys (d: the key as data) -/
structure IsD {κ : Type} [DecidableEq κ] (t : T) (ek : κ → D) (τ : α → T) (kvs : List (κ × α)) : Prop where
  get : ∀ k, dGet t (.fr (ek k)) = some ((getK kvs k).map τ)
  el : elems t = none
  ns : ∀ l, t ≠ .fr (.str l)
def eP2 : Tx × Tx → D := eT2 D.str D.str
theorem id_DS {e : α → D} {kvs : List (Tx × α)} : IsD (.fr (eDS e kvs)) D.str (fr e) kvs := ⟨fun k => by
  show some ((getK (kvS e kvs) (.inr k)).map T.fr) = _
  rw [getK_kvS, Option.map_map]; rfl, rfl, fun l z => by cases z⟩
theorem id_DI {e : α → D} {kvs : List (Int × α)} : IsD (.fr (eDI e kvs)) D.int (fr e) kvs := ⟨fun k => by
  show some ((getK (kvI e kvs) (.inl k)).map T.fr) = _
  rw [getK_kvI, Option.map_map]; rfl, rfl, fun l z => by cases z⟩
theorem id_DP {e : α → D} {kvs : List ((Tx × Tx) × α)} : IsD (.fr (eDP e kvs)) eP2 (fr e) kvs := ⟨fun k => by
  show some ((getK (kvP e kvs) [.inr k.1, .inr k.2]).map T.fr) = _
  rw [getK_kvP, Option.map_map]; rfl, rfl, fun l z => by cases z⟩
theorem id_tS {m : Bool} {τ : α → T} {kvs : List (Tx × α)} : IsD (tDS m τ kvs) D.str τ kvs := ⟨fun k => by
  show some (getK (ktS τ kvs) (.inr k)) = _
  rw [getK_ktS], rfl, fun l z => by cases z⟩
theorem id_tI {m : Bool} {τ : α → T} {kvs : List (Int × α)} : IsD (tDI m τ kvs) D.int τ kvs := ⟨fun k => by
  show some (getK (ktI τ kvs) (.inl k)) = _
  rw [getK_ktI], rfl, fun l z => by cases z⟩
theorem id_tP {m : Bool} {τ : α → T} {kvs : List ((Tx × Tx) × α)} : IsD (tDP m τ kvs) eP2 τ kvs := ⟨fun k => by
  show some (getK (ktP τ kvs) [.inr k.1, .inr k.2]) = _
  rw [getK_ktP], rfl, fun l z => by cases z⟩
theorem oIx_dict {x y : T} {P : T → Prop} (e : elems x = none) (n : ∀ l, x ≠ .fr (.str l)) : oIx x y P = match dGet x y with
      | some (some t) => P t
      | _ => False := by
  unfold oIx
  rw [e]
  cases x with
  | fr d => cases d with
    | str l => exact absurd rfl (n l)
    | _ => rfl
  | _ => rfl
theorem o_ixD {κ : Type} [DecidableEq κ] [Inhabited α] {ek : κ → D} {τ : α → T} {kvs : List (κ × α)} (h : IsD t ek τ kvs) (k : κ) : Op2 oIx t (.fr (ek k)) [hasK kvs k = true] (τ ((getK kvs k).getD default)) := fun P q p => by
  rw [oIx_dict h.el h.ns, h.get]
  have q := q.1
  unfold hasK at q
  cases hx : getK kvs k with
  | none => rw [hx] at q; cases q
  | some v => rw [hx] at p; exact p
theorem oInB_dict {x y : T} (e : elems y = none) (n : ∀ l, y ≠ .fr (.str l)) : oInB x y = (dGet y x).map (·.isSome) := by
  unfold oInB
  rw [e]
  cases y with
  | fr d => cases d with
    | str l => exact absurd rfl (n l)
    | _ => cases x with
      | fr x => cases x with
        | str l => cases l with
          | nil => rfl
          | cons c l => cases l <;> rfl
        | _ => rfl
      | _ => rfl
  | _ => cases x with
      | fr x => cases x with
        | str l => cases l with
          | nil => rfl
          | cons c l => cases l <;> rfl
        | _ => rfl
      | _ => rfl
theorem o_inD {κ : Type} [DecidableEq κ] {ek : κ → D} {τ : α → T} {kvs : List (κ × α)} (h : IsD t ek τ kvs) (k : κ) : Op2 oIn (.fr (ek k)) t [] (.fr (.bl (hasK kvs k))) := fun P q p => by
  show match oInB (.fr (ek k)) t with | some b => P (.fr (.bl b)) | none => False
  rw [oInB_dict h.el h.ns, h.get, Option.map_some, Option.isSome_map]
  exact p
theorem o_notInD {κ : Type} [DecidableEq κ] {ek : κ → D} {τ : α → T} {kvs : List (κ × α)} (h : IsD t ek τ kvs) (k : κ) : Op2 oNotIn (.fr (ek k)) t [] (.fr (.bl (!hasK kvs k))) := fun P q p => by
  show match oInB (.fr (ek k)) t with | some b => P (.fr (.bl (!b))) | none => False
  rw [oInB_dict h.el h.ns, h.get, Option.map_some, Option.isSome_map]
  exact p
end
end TL
set_option Elab.async false
set_option linter.all false
set_option maxRecDepth 100000
set_option maxHeartbeats 1000000
/-! TL32: forgetting slots; loops whose slots are forgotten; typed readings of statements. -/
namespace TL
open PySem PySem.Spec PyProof.Rows L2
/-- r knows no more than ρ -/
inductive Fg : Rho → Rho → Prop
  | nil : Fg [] []
  | keep (o : Option T) {ρ r : Rho} : Fg ρ r → Fg (o :: ρ) (o :: r)
  | drop (o : Option T) {ρ r : Rho} : Fg ρ r → Fg (o :: ρ) (none :: r)
theorem Fg.refl : ∀ ρ : Rho, Fg ρ ρ
  | [] => .nil
  | o :: ρ => .keep o (Fg.refl ρ)
theorem Fg.trans {a b c : Rho} (h : Fg a b) (k : Fg b c) : Fg a c := by
  induction h generalizing c with
  | nil => exact k
  | keep o h ih => cases k with
    | keep _ k => exact .keep o (ih k)
    | drop _ k => exact .drop o (ih k)
  | drop o h ih => cases k with
    | keep _ k => exact .drop o (ih k)
    | drop _ k => exact .drop o (ih k)
theorem Fg.setN : ∀ (ρ : Rho) (i : Nat), Fg ρ (ρ.set i none)
  | [], _ => .nil
  | o :: ρ, 0 => .drop o (Fg.refl ρ)
  | o :: ρ, i + 1 => .keep o (Fg.setN ρ i)
theorem Fg.wipe (ρ : Rho) : ∀ vs : List Nat, Fg ρ (wipeR ρ vs)
  | [] => Fg.refl ρ
  | v :: vs => (Fg.wipe ρ vs).trans (Fg.setN _ v)
theorem Fg.set {ρ r : Rho} (h : Fg ρ r) (i : Nat) (t : Option T) : Fg (ρ.set i t) (r.set i t) := by
  induction h generalizing i with
  | nil => exact .nil
  | keep o h ih => cases i with
    | zero => exact .keep _ h
    | succ i => exact .keep _ (ih i)
  | drop o h ih => cases i with
    | zero => exact .keep _ h
    | succ i => exact .drop _ (ih i)
theorem Fg.look {ρ r : Rho} (h : Fg ρ r) {i : Nat} {t : T} (e : look r i = some t) : look ρ i = some t := by
  induction h generalizing i with
  | nil => cases e
  | keep o h ih => cases i with
    | zero => exact e
    | succ i => exact ih e
  | drop o h ih => cases i with
    | zero => cases e
    | succ i => exact ih e
mutual
theorem Fg.bind : ∀ {p : Pat} {t : T} {ρ r r1 : Rho}, Fg ρ r → bindP p t r = some r1 → ∃ ρ1, bindP p t ρ = some ρ1 ∧ Fg ρ1 r1
  | .nm i, t, ρ, r, r1, h, e => by
    cases e
    exact ⟨_, rfl, h.set i _⟩
  | .tu ps, t, ρ, r, r1, h, e => by
    unfold bindP at e ⊢
    cases q : tupEls t with
    | none => rw [q] at e; cases e
    | some ts => rw [q] at e; exact Fg.binds h e
theorem Fg.binds : ∀ {ps : Pats} {ts : List T} {ρ r r1 : Rho}, Fg ρ r → bindPs ps ts r = some r1 → ∃ ρ1, bindPs ps ts ρ = some ρ1 ∧ Fg ρ1 r1
  | .nil, [], ρ, r, r1, h, e => by cases e; exact ⟨_, rfl, h⟩
  | .nil, _ :: _, ρ, r, r1, h, e => by cases e
  | .cons p ps, [], ρ, r, r1, h, e => by cases e
  | .cons p ps, t :: ts, ρ, r, r1, h, e => by
    unfold bindPs at e ⊢
    cases q : bindP p t r with
    | none => rw [q] at e; cases e
    | some r2 =>
      rw [q] at e
      obtain ⟨ρ2, e2, h2⟩ := Fg.bind h q
      rw [e2]
      exact Fg.binds h2 e
end
section
variable {K : PySem.W.Frag} {Z : Ctx} {G : Gh} {H : Hp} {σ : L2.St} {ρ r : Rho}
theorem RepS.fg {fp : Fps} (h : RepS K G H σ ρ fp) (g : Fg ρ r) : ∃ fp', RepS K G H σ r fp' ∧ fp'.Sublist fp := by
  induction g generalizing σ fp with
  | nil => exact ⟨_, h, List.Sublist.refl _⟩
  | keep o g ih => cases h with
    | no h => obtain ⟨f', a, b⟩ := ih h; exact ⟨_, .no a, b⟩
    | so t h => obtain ⟨f', a, b⟩ := ih h; exact ⟨_, .so t a, List.Sublist.append (List.Sublist.refl _) b⟩
  | drop o g ih => cases h with
    | no h => obtain ⟨f', a, b⟩ := ih h; exact ⟨_, .no a, b⟩
    | so t h => obtain ⟨f', a, b⟩ := ih h; exact ⟨_, .no a, b.trans (List.sublist_append_right _ _)⟩
theorem StOk.fg (s : StOk K Z G H σ ρ) (g : Fg ρ r) : StOk K Z G H σ r := by
  obtain ⟨fp, h, n, m, l⟩ := s.rep
  obtain ⟨fp', h', sb⟩ := h.fg g
  refine ⟨s.hd, ⟨fp', h', ?_, fun a ha => m a (sb.subset ha), fun a ha => l a (sb.subset ha)⟩, s.sub, s.new, s.keep, s.there, s.lo, fun j u w e1 e2 e3 => s.pin j u w e1 (g.look e2) e3⟩
  unfold mines at n ⊢
  exact ((sb.filter _).map _).nodup n
end
section
variable {X : Cx} {np : Np} {c ca cb ci N : Nat} {sts : List Stmt} {st : Stmt} {W W' : TSW} {p : Pat} {wi : TWI} {pos : Pos} {e : Expr} {wt : TB}
def sFg (W : TSW) : TSW := fun E ρ => ∃ r, Fg ρ r ∧ W E r
def sWipe (vs : List Nat) (W : TSW) : TSW := fun E ρ => W E (wipeR ρ vs)
theorem wss_fg (h : WSs X np c sts W) : WSs X np c sts (sFg W) := PSs.imp h fun D σ H ⟨Z, G, ρ, E, hZ, s, hn, ⟨r, g, hw⟩, k⟩ => ⟨Z, G, r, E, hZ, s.fg g, hn, hw, k⟩
theorem ws_fg (h : WS X np c st W) : WS X np c st (sFg W) := PS.imp h fun D σ H ⟨Z, G, ρ, E, hZ, s, hn, ⟨r, g, hw⟩, k⟩ => ⟨Z, G, r, E, hZ, s.fg g, hn, hw, k⟩
theorem wss_wipe (vs : List Nat) (h : WSs X np c sts W) : WSs X np c sts (sWipe vs W) := PSs.imp (wss_fg h) fun D σ H ⟨Z, G, ρ, E, hZ, s, hn, hw, k⟩ => ⟨Z, G, ρ, E, hZ, s, hn, ⟨_, Fg.wipe ρ vs, hw⟩, k⟩
theorem WSs.imp (h : WSs X np c sts W) (i : ∀ E ρ, W' E ρ → W E ρ) : WSs X np c sts W' := PSs.imp h fun D σ H ⟨Z, G, ρ, E, hZ, s, hn, hw, k⟩ => ⟨Z, G, ρ, E, hZ, s, hn, i E ρ hw, k⟩
theorem WS.imp (h : WS X np c st W) (i : ∀ E ρ, W' E ρ → W E ρ) : WS X np c st W' := PS.imp h fun D σ H ⟨Z, G, ρ, E, hZ, s, hn, hw, k⟩ => ⟨Z, G, ρ, E, hZ, s, hn, i E ρ hw, k⟩
def tFg (wt : TB) : TB := fun ρ P => ∃ r, Fg ρ r ∧ wt r P
theorem wt_fg (h : WT X c e wt) : WT X c e (tFg wt) := PT.imp h fun σ H Q ⟨G, ρ, fp, P, hd, rs, hn, ⟨r, g, hw⟩, k⟩ => by
  obtain ⟨fp', rs', _⟩ := rs.fg g
  exact ⟨G, r, fp', P, hd, rs', hn, hw, fun b G' H' x lk p lk' => k b G' H' x lk p⟩
/-- for: at each turn's begin the slots vs are forgotten -/
def sForV (vs : List Nat) (p : Pat) (wi : TWI) (W : TSW) : TSW := fun E ρ => wi ρ fun fl its => fl = true ∧ ∃ I : Nat → Rho → Prop, I 0 (wipeR ρ vs) ∧
  (∀ i t r, its[i]? = some t → I i r → ∃ r1, bindP p t r = some r1 ∧ W { E with nx := fun r' => I (i + 1) (wipeR r' vs), ct := fun r' => I (i + 1) (wipeR r' vs), bk := E.nx } r1) ∧ ∀ r, I its.length (wipeR r vs) → E.nx r
/-- monotone in what is told -/
def MonoI (wi : TWI) : Prop := ∀ ρ (P Q : Bool → List T → Prop), (∀ b ts, P b ts → Q b ts) → wi ρ P → wi ρ Q
theorem WI.imp {tg : Expr} {wi' : TWI} (h : WI X c N tg e wi) (i : ∀ ρ P, wi' ρ P → ∃ P', wi ρ P' ∧ ∀ b ts, P' b ts → P b ts) : WI X c N tg e wi' := PI.imp h fun σ H R ⟨G, ρ, fp, P, hd, rs, hn, hw, k⟩ => by
  obtain ⟨P', h1, h2⟩ := i ρ P hw
  exact ⟨G, ρ, fp, P', hd, rs, hn, h1, fun J fl its f Gd Y G' H' x a b l w s q lk => k J fl its f Gd Y G' H' x a b l w s (h2 _ _ q)⟩
def wiUp (wi : TWI) : TWI := fun ρ P => ∃ P', wi ρ P' ∧ ∀ b ts, P' b ts → P b ts
theorem wi_up {tg : Expr} (h : WI X c N tg e wi) : WI X c N tg e (wiUp wi) := WI.imp h fun _ _ z => z
theorem ws_forV (vs : List Nat) {tg iter : Expr} {body : List Stmt} (hp : PassesOwn (model X.prog X.w) X.A X.env X.xe) (hc : X.calm = true) (hi : WI X ci N tg iter wi) (hg : PG X tg (patG X.K p)) (hb : WSs X np c body W) (hs : ∀ x, foldedSetIterable iter X.env x = pure x := by intro _; rfl) :
    WS X np (ci + N * c) (.For tg iter body [] pos) (sForV vs p wi W) := WS.imp (ws_for (W := sFg W) hp hc (wi_up hi) hg (wss_fg hb) hs) fun E ρ hw => by
  refine ⟨_, hw, fun fl its ⟨h1, I, i0, is, idn⟩ => ⟨h1, fun i r => I i (wipeR r vs), i0, fun i t r ht hI => ?_, idn⟩⟩
  obtain ⟨r1, e1, w1⟩ := is i t _ ht hI
  obtain ⟨ρ1, e2, g2⟩ := (Fg.wipe r vs).bind e1
  rw [e2]
  exact ⟨r1, g2, w1⟩
def sWhileV (vs : List Nat) (wt : TB) (W : TSW) : TSW := fun E ρ => ∃ (I : Rho → Prop) (μ : Rho → Nat), I (wipeR ρ vs) ∧ ∀ r, I r → wt r fun b => if b = true then W { E with nx := fun r' => I (wipeR r' vs) ∧ μ (wipeR r' vs) < μ r, ct := fun r' => I (wipeR r' vs) ∧ μ (wipeR r' vs) < μ r, bk := E.nx } r else ∀ r', wipeR r' vs = r → E.nx r'
theorem ws_whileV (vs : List Nat) {q : Expr} {body : List Stmt} (hp : PassesOwn (model X.prog X.w) X.A X.env X.xe) (hq : WT X 0 q wt) (hb : WSs X np 0 body W) (hm : ∀ ρ (P Q : Bool → Prop), (∀ b, P b → Q b) → wt ρ P → wt ρ Q) : WS X np 0 (.While q body [] pos) (sWhileV vs wt W) := WS.imp (ws_while (W := sFg W) (wt := tFg wt) hp (wt_fg hq) (wss_fg hb)) fun E ρ hw => by
  obtain ⟨I, μ, i0, is⟩ := hw
  refine ⟨fun r => I (wipeR r vs), fun r => μ (wipeR r vs), i0, fun ρ' hI => ?_⟩
  refine ⟨_, Fg.wipe ρ' vs, hm _ _ _ (fun b hb => ?_) (is _ hI)⟩
  cases b with
  | true => rw [if_pos rfl] at hb ⊢; exact ⟨_, Fg.wipe ρ' vs, hb⟩
  | false => rw [if_neg Bool.false_ne_true] at hb ⊢; exact hb ρ' rfl
end
/-! ### typed readings of statements -/
section
variable {M N S α β : Type}
inductive Step (S M : Type) where
  | nx (s : S)
  | rt (m : M)
def Step.on {S M X : Type _} (r : Step S M) (f : S → X) (g : M → X) : X := match r with
  | .nx s => f s
  | .rt m => g m
theorem Step.on_nx {S M X : Type _} (s : S) (f : S → X) (g : M → X) : (Step.nx s : Step S M).on f g = f s := rfl
theorem Step.on_rt {S M X : Type _} (m : M) (f : S → X) (g : M → X) : (Step.rt m : Step S M).on f g = g m := rfl
def Rg (W : TSW) (ρ : Rho) (os : List Prop) (good : M → ET → Prop) (m : M) : Prop := ∀ E, All os → good m E → W E ρ
def Sn (W : TSW) (ρ : Rho) (os : List Prop) (ρ' : Rho) : Prop := ∀ E : ET, All os → E.nx ρ' → W E ρ
variable {W W1 W2 W3 Wa Wb : TSW} {ρ ρ1 : Rho} {os oa ob oc : List Prop} {good : M → ET → Prop} {m ma mb : M} {w : TW} {u : TB} {t : T}
theorem Rg.mono {os' : List Prop} (h : Rg W ρ os good m) (i : All os' → All os) : Rg W ρ os' good m := fun E o g => h E (i o) g
theorem rg_seq (h : Sn W1 ρ oa ρ1) (k : Rg W2 ρ1 ob good m) (gn : ∀ E f, good m E → good m { E with nx := f } := by exact fun _ _ h => h) : Rg (sSeq W1 W2) ρ (oa ++ ob) good m := fun E o g =>
  have q := all_app.mp o
  h _ q.1 (k _ q.2 g)
theorem rg_let {ρ1 : α → Rho} {ob : α → List Prop} {m : α → M} (v : α) (h : Sn W1 ρ oa (ρ1 v)) (k : ∀ x, Rg W2 (ρ1 x) (ob x) good (m x)) : Rg (sSeq W1 W2) ρ (oa ++ [All (ob v)]) good (m v) := fun E o g =>
  have q := all_app.mp o
  h _ q.1 (k v _ q.2.1 g)
theorem rg_let0 {ρ1 : α → Rho} {m : α → M} (v : α) (h : Sn W1 ρ oa (ρ1 v)) (k : ∀ x, Rg W2 (ρ1 x) [] good (m x)) : Rg (sSeq W1 W2) ρ oa good (m v) := fun E o g => h _ o (k v _ trivial g)
theorem rg_if (hc : Eb u ρ oc c) (ha : Rg (sSeq Wa W2) ρ oa good ma) (hb : Rg (sSeq Wb W2) ρ ob good mb) : Rg (sSeq (sIf u Wa Wb) W2) ρ (oc ++ [if c = true then All oa else All ob]) good (if c = true then ma else mb) := fun E o g => by
  obtain ⟨q1, q2, _⟩ := all_app.mp o
  refine hc _ q1 ?_
  cases c with
  | true => exact ha E q2 g
  | false => exact hb E q2 g
theorem rg_if0 (hc : Eb u ρ oc c) (ha : Rg (sSeq Wa W2) ρ [] good ma) (hb : Rg (sSeq Wb W2) ρ [] good mb) : Rg (sSeq (sIf u Wa Wb) W2) ρ oc good (if c = true then ma else mb) := fun E o g => by
  refine hc _ o ?_
  cases c with
  | true => exact ha E trivial g
  | false => exact hb E trivial g
theorem rg_assoc (h : Rg (sSeq W1 (sSeq W2 W3)) ρ os good m) : Rg (sSeq (sSeq W1 W2) W3) ρ os good m := h
theorem rg_skip (h : Rg W2 ρ os good m) : Rg (sSeq sNext W2) ρ os good m := h
theorem rg_end (h : Rg (sSeq W sNext) ρ os good m) : Rg W ρ os good m := h
theorem rg_ret (h : Ep w ρ os t) (k : ∀ E, good m E → asD (fun d => E.rt (.fr d) ρ) t) : Rg (sSeq (sRet w) W2) ρ os good m := fun E o g => h _ o (by
  cases t with
  | fr d => exact k E g
  | _ => exact (k E g).elim)
theorem rg_nx (k : ∀ E, good m E → E.nx ρ) : Rg sNext ρ [] good m := fun E o g => k E g
theorem rg_wipe (vs : List Nat) {r : Rho} (e : wipeR ρ vs = r) (h : Rg W r os good m) : Rg (sWipe vs W) ρ os good m := fun E o g => by
  show W E (wipeR ρ vs)
  rw [e]; exact h E o g
/-- slots vs are forgotten, the others are as R tells -/
def nxG (vs : List Nat) (R : S → Rho) : S → ET → Prop := fun s E => ∀ r, wipeR r vs = R s → E.nx r
theorem rg_join {vs : List Nat} {R : S → Rho} {s : S} {ob : S → List Prop} {m : S → M} (h : Rg W1 ρ oa (nxG vs R) s) (k : ∀ s, Rg W2 (R s) (ob s) good (m s)) : Rg (sSeq W1 (sWipe vs W2)) ρ (oa ++ [All (ob s)]) good (m s) := fun E o g => by
  obtain ⟨q1, q2, _⟩ := all_app.mp o
  exact h _ q1 fun r e => by show W2 E (wipeR r vs); rw [e]; exact k s E q2 g
theorem rg_join0 {vs : List Nat} {R : S → Rho} {s : S} {m : S → M} (h : Rg W1 ρ oa (nxG vs R) s) (k : ∀ s, Rg W2 (R s) [] good (m s)) : Rg (sSeq W1 (sWipe vs W2)) ρ oa good (m s) := fun E o g => 
  h _ o fun r e => by show W2 E (wipeR r vs); rw [e]; exact k s E trivial g
/-! ### loops -/
def okN (ok : S → α → Prop) (step : S → α → S) : List α → S → Prop
  | [], _ => True
  | x :: xs, s => ok s x ∧ okN ok step xs (step s x)
def loopF (step : S → α → Step S M) : List α → S → Step S M
  | [], s => .nx s
  | x :: xs, s => (step s x).on (fun s' => loopF step xs s') fun m => .rt m
theorem loopF_nil (step : S → α → Step S M) (s : S) : loopF step [] s = .nx s := rfl
theorem loopF_cons (step : S → α → Step S M) (x : α) (xs : List α) (s : S) : loopF step (x :: xs) s = (step s x).on (fun s' => loopF step xs s') fun m => .rt m := rfl
def okF (ok : S → α → Prop) (step : S → α → Step S M) : List α → S → Prop
  | [], _ => True
  | x :: xs, s => ok s x ∧ (step s x).on (fun s' => okF ok step xs s') fun _ => True
def stG (vs : List Nat) (R : S → Rho) (gF : M → ET → Prop) : Step S M → ET → Prop
  | .nx s, E => ∀ r, wipeR r vs = R s → E.nx r
  | .rt m, E => gF m E
theorem drop_succ {xs : List α} {i : Nat} {x : α} {r : List α} (h : xs.drop i = x :: r) : xs[i]? = some x ∧ xs.drop (i + 1) = r := by
  have h1 : (xs.drop i)[0]? = some x := by rw [h]; rfl
  rw [List.getElem?_drop] at h1
  refine ⟨by simpa using h1, ?_⟩
  have : xs.drop (i + 1) = (xs.drop i).drop 1 := by rw [List.drop_drop]
  rw [this, h]; rfl
theorem drop_get {xs : List α} {i : Nat} {x : α} (h : xs[i]? = some x) : xs.drop i = x :: xs.drop (i + 1) := by
  obtain ⟨hlt, e⟩ := List.getElem?_eq_some_iff.mp h
  rw [List.drop_eq_getElem_cons hlt, e]
theorem forV_ind {vs : List Nat} {p : Pat} {wi : TWI} {E : ET} {τ : α → T} {xs : List α} (hi : Ei wi ρ os true (xs.map τ)) (ho : All os) (I : List α → Rho → Prop) (h0 : I xs (wipeR ρ vs))
    (hs : ∀ x r ρ', I (x :: r) ρ' → ∃ ρ1, bindP p (τ x) ρ' = some ρ1 ∧ Wb { E with nx := fun r' => I r (wipeR r' vs), ct := fun r' => I r (wipeR r' vs), bk := E.nx } ρ1) (hd : ∀ r, I [] (wipeR r vs) → E.nx r) : sForV vs p wi Wb E ρ := by
  refine hi _ ho ⟨rfl, fun i r => I (xs.drop i) r, h0, fun i t r ht hI => ?_, fun r hI => hd r (by rw [List.length_map, List.drop_length] at hI; exact hI)⟩
  rw [List.getElem?_map] at ht
  cases hx : xs[i]? with
  | none => rw [hx] at ht; cases ht
  | some x =>
    rw [hx] at ht
    cases ht
    rw [drop_get hx] at hI
    exact hs x _ r hI
/-- for without a return in it -/
theorem rg_forN {vs : List Nat} {p : Pat} {wi : TWI} {τ : α → T} {xs : List α} {oi : List Prop} {R : S → Rho} {ρb : S → α → Rho} {obd : S → α → List Prop} {step : S → α → S} {o2 : S → List Prop} {m : S → M} (s0 : S) (hi : Ei wi ρ oi true (xs.map τ)) (h0 : wipeR ρ vs = R s0) (hp : ∀ s x, bindP p (τ x) (R s) = some (ρb s x))
    (hb : ∀ s x, Rg Wb (ρb s x) (obd s x) (nxG vs R) (step s x)) (k : ∀ s, Rg W2 (R s) (o2 s) good (m s)) : Rg (sSeq (sForV vs p wi Wb) (sWipe vs W2)) ρ (oi ++ [okN (fun s x => All (obd s x)) step xs s0, All (o2 (xs.foldl step s0))]) good (m (xs.foldl step s0)) := fun E o g => by
  obtain ⟨q1, q2, q3, _⟩ := all_app.mp o
  refine forV_ind hi q1 (fun r ρ' => ∃ s, ρ' = R s ∧ okN (fun s x => All (obd s x)) step r s ∧ r.foldl step s = xs.foldl step s0) ⟨s0, h0, q2, rfl⟩ ?_ ?_
  · rintro x r ρ' ⟨s, rfl, ⟨k1, k2⟩, k3⟩
    exact ⟨_, hp s x, hb s x _ k1 fun r' e => ⟨_, e, k2, k3⟩⟩
  · rintro r ⟨s, e, _, k3⟩
    show W2 E (wipeR r vs)
    rw [e]
    rw [List.foldl_nil] at k3
    subst k3
    exact k _ E q3 g
theorem rg_forN0 {vs : List Nat} {p : Pat} {wi : TWI} {τ : α → T} {xs : List α} {oi : List Prop} {R : S → Rho} {ρb : S → α → Rho} {step : S → α → S} {o2 : S → List Prop} {m : S → M} (s0 : S) (hi : Ei wi ρ oi true (xs.map τ)) (h0 : wipeR ρ vs = R s0) (hp : ∀ s x, bindP p (τ x) (R s) = some (ρb s x))
    (hb : ∀ s x, Rg Wb (ρb s x) [] (nxG vs R) (step s x)) (k : ∀ s, Rg W2 (R s) (o2 s) good (m s)) : Rg (sSeq (sForV vs p wi Wb) (sWipe vs W2)) ρ (oi ++ [All (o2 (xs.foldl step s0))]) good (m (xs.foldl step s0)) := fun E o g => by
  obtain ⟨q1, q3, _⟩ := all_app.mp o
  refine rg_forN s0 hi h0 hp hb k E (all_app.mpr ⟨q1, ?_, q3, trivial⟩) g
  clear q1 q3 g h0 hi o
  induction xs generalizing s0 with
  | nil => trivial
  | cons x xs ih => exact ⟨trivial, ih _⟩
/-- for with a return in it -/
theorem rg_forF {vs : List Nat} {p : Pat} {wi : TWI} {τ : α → T} {xs : List α} {oi : List Prop} {R : S → Rho} {ρb : S → α → Rho} {obd : S → α → List Prop} {gF : N → ET → Prop} {step : S → α → Step S N} {o2 : S → List Prop} {m : S → M} {inj : N → M} (s0 : S) (hi : Ei wi ρ oi true (xs.map τ)) (h0 : wipeR ρ vs = R s0) (hp : ∀ s x, bindP p (τ x) (R s) = some (ρb s x))
    (hb : ∀ s x, Rg Wb (ρb s x) (obd s x) (stG vs R gF) (step s x)) (k : ∀ s, Rg W2 (R s) (o2 s) good (m s)) (hj : ∀ n E f g h, good (inj n) E → gF n { E with nx := f, ct := g, bk := h }) : Rg (sSeq (sForV vs p wi Wb) (sWipe vs W2)) ρ (oi ++ [okF (fun s x => All (obd s x)) step xs s0, (loopF step xs s0).on (fun s => All (o2 s)) fun _ => True]) good ((loopF step xs s0).on (fun s => m s) fun n => inj n) := fun E o g => by
  obtain ⟨q1, q2, q3, _⟩ := all_app.mp o
  refine forV_ind hi q1 (fun r ρ' => ∃ s, ρ' = R s ∧ okF (fun s x => All (obd s x)) step r s ∧ loopF step r s = loopF step xs s0) ⟨s0, h0, q2, rfl⟩ ?_ ?_
  · rintro x r ρ' ⟨s, rfl, ⟨k1, k2⟩, k3⟩
    refine ⟨_, hp s x, hb s x _ k1 ?_⟩
    rw [loopF_cons] at k3
    cases hs : step s x with
    | nx s' =>
      rw [hs] at k2 k3
      exact fun r' e => ⟨_, e, k2, k3⟩
    | rt n =>
      rw [hs] at k3
      rw [← k3] at g
      exact hj n E _ _ _ g
  · rintro r ⟨s, e, _, k3⟩
    show W2 E (wipeR r vs)
    rw [e]
    rw [loopF_nil] at k3
    rw [← k3] at q3 g
    exact k s E q3 g
end
end TL
set_option Elab.async false
set_option linter.all false
set_option maxRecDepth 100000
set_option maxHeartbeats 1000000
/-! TL33: comprehensions, built-ins, texts, own lists: typed. -/
namespace TL
open PySem PySem.Spec PyProof.Rows L2
section
variable {M N S α β γ : Type}
variable {W W1 W2 W3 Wa Wb : TSW} {ρ ρ1 : Rho} {os oa ob oc oi oo : List Prop} {w wa wb we : TW} {ws : TWs} {u wt : TB} {x y t : T} {ts : List T} {fl : Bool} {C : List T → Prop} {p : Pat} {vs : List Nat} {wi : TWI}
/-! ### what is walked -/
theorem Ei.as {its its' : List T} (h : Ei wi ρ os fl its) (e : its = its') : Ei wi ρ os fl its' := e ▸ h
theorem ei_seq {τ : α → T} {xs : List α} (h : Ep w ρ os t) (k : IsL t τ xs fl) : Ei (wiSeq w) ρ os fl (xs.map τ) := fun P o q => h _ o (by
  obtain ⟨l, e⟩ := k.el
  show match elems t with | some (_, ts) => P t.lentB ts | none => False
  rw [e, k.fl]; exact q)
def eSg : Nat → D := fun c => .str [c]
theorem ei_str {l : Tx} (h : Ep w ρ os (.fr (.str l))) : Ei (wiStr w) ρ os true (l.map (fr eSg)) := fun P o q => h _ o q
def upI (lo : Int) (n : Nat) : List Int := (List.range n).map fun (i : Nat) => lo + (i : Int)
theorem upTo_eq (lo : Int) (n : Nat) : upTo lo n = (upI lo n).map (fr D.int) := by
  unfold upTo upI
  rw [List.map_map]; rfl
theorem ei_rng1 {j : Int} (h : Eps ws ρ os [.fr (.int j)]) : Ei (wiRng1 ws) ρ (os ++ [-(2 ^ 62) ≤ j ∧ j < 2 ^ 62]) true ((upI 0 j.toNat).map (fr D.int)) := fun P o q => by
  obtain ⟨q1, ⟨q2, q3⟩, _⟩ := all_app.mp o
  exact h _ q1 ⟨q2, q3, by rw [upTo_eq]; exact q⟩
theorem ei_rng2 {i j : Int} (h : Eps ws ρ os [.fr (.int i), .fr (.int j)]) : Ei (wiRng2 ws) ρ (os ++ [(-(2 ^ 62) ≤ i ∧ i < 2 ^ 62) ∧ -(2 ^ 62) ≤ j ∧ j < 2 ^ 62]) true ((upI i (j - i).toNat).map (fr D.int)) := fun P o q => by
  obtain ⟨q1, ⟨⟨q2, q3⟩, q4, q5⟩, _⟩ := all_app.mp o
  exact h _ q1 ⟨⟨q2, q3, q4, q5⟩, by rw [upTo_eq]; exact q⟩
def enumL : Nat → List α → List (Int × α)
  | _, [] => []
  | n, x :: xs => ((n : Int), x) :: enumL (n + 1) xs
theorem enumT_eq {e : α → D} : ∀ (n : Nat) (xs : List α), enumT n (xs.map (fr e)) = (enumL n xs).map (fr (eT2 D.int e))
  | _, [] => rfl
  | n, x :: xs => by
    rw [List.map_cons, enumT, enumT_eq (n + 1) xs]; rfl
theorem ei_enum {e : α → D} {xs : List α} (h : Eps ws ρ os [t]) (k : IsLL t (fr e) xs fl) : Ei (wiEnum ws) ρ os fl ((enumL 0 xs).map (fr (eT2 D.int e))) := fun P o q => h _ o (by
  show match elems t with | some (true, us) => P t.lentB (enumT 0 us) | _ => False
  rw [k.el, k.fl]
  show P fl (enumT 0 (xs.map (fr e)))
  rw [enumT_eq]; exact q)
theorem zipT_eq {e : α → D} {f : β → D} : ∀ (xs : List α) (ys : List β), zipT (xs.map (fr e)) (ys.map (fr f)) = (xs.zip ys).map (fr (eT2 e f))
  | [], _ => by rw [List.map_nil, List.zip_nil_left]; rfl
  | x :: xs, [] => rfl
  | x :: xs, y :: ys => by
    rw [List.map_cons, List.map_cons, zipT, zipT_eq xs ys]; rfl
theorem ei_zip {e : α → D} {f : β → D} {xs : List α} {ys : List β} {fl' : Bool} (h : Eps ws ρ os [x, y]) (k : IsLL x (fr e) xs fl) (k' : IsLL y (fr f) ys fl') : Ei (wiZip ws) ρ os (fl && fl') ((xs.zip ys).map (fr (eT2 e f))) := fun P o q => h _ o (by
  show match elems x, elems y with | some (true, xs), some (true, ys) => P (x.lentB && y.lentB) (zipT xs ys) | _, _ => False
  rw [k.el, k'.el, k.fl, k'.fl]
  show P (fl && fl') (zipT (xs.map (fr e)) (ys.map (fr f)))
  rw [zipT_eq]; exact q)
/-! ### comprehensions -/
theorem lc_core {τ : α → T} {xs : List α} {oC : List Prop} {ρb : α → Rho} {ot oe : α → List Prop} {c : α → Bool} {e : β → D} {f : α → β} (hi : Ei wi ρ oi fl (xs.map τ)) (hC : All oC → C (xs.map τ)) (hp : ∀ x, bindP p (τ x) (wipeR ρ vs) = some (ρb x)) (ht : ∀ x, Eb wt (ρb x) (ot x) (c x)) (he : ∀ x, Ep we (ρb x) (oe x) (.fr (e (f x)))) (P : T → Prop) (o1 : All oi) (o2 : All oC) (o3 : ∀ x ∈ xs, All (ot x) ∧ (c x = true → All (oe x))) (q : P (.fr (eL e ((xs.filter c).map f)))) : wLcG C vs p wi wt we ρ P := by
  refine hi _ o1 ⟨hC o2, fun i acc => acc = (((xs.take i).filter c).map f).map e, by show [] = _; rw [List.take_zero]; rfl, fun i t acc hx hI => ?_, fun acc hI => ?_⟩
  · rw [List.getElem?_map] at hx
    cases hg : xs[i]? with
    | none => rw [hg] at hx; cases hx
    | some x =>
      rw [hg] at hx
      cases hx
      have hm : x ∈ xs := List.mem_of_getElem? hg
      have ht' : xs.take (i + 1) = xs.take i ++ [x] := by rw [List.take_add_one, hg]; rfl
      rw [hp]
      refine ht x _ (o3 x hm).1 ?_
      cases hc : c x with
      | true =>
        refine he x _ ((o3 x hm).2 hc) ?_
        show acc ++ [e (f x)] = _
        rw [hI, ht', List.filter_append, List.filter_cons_of_pos hc, List.map_append, List.map_append]; rfl
      | false =>
        show acc = _
        rw [hI, ht', List.filter_append, List.filter_cons_of_neg (by rw [hc]; exact Bool.false_ne_true), List.filter_nil, List.append_nil]
  · rw [List.length_map, List.take_length] at hI
    rw [hI]; exact q
theorem Fl_true {xs : List α} : xs.filter (fun _ => true) = xs := by
  induction xs with
  | nil => rfl
  | cons x xs ih => rw [List.filter_cons_of_pos rfl, ih]
theorem eb_true : Eb (fun _ P => P true) ρ [] true := fun P _ p => p
theorem ep_lc {τ : α → T} {xs : List α} {oC : List Prop} {ρb : α → Rho} {ot oe : α → List Prop} {c : α → Bool} {e : β → D} {f : α → β} (hi : Ei wi ρ oi fl (xs.map τ)) (hC : All oC → C (xs.map τ)) (hp : ∀ x, bindP p (τ x) (wipeR ρ vs) = some (ρb x)) (ht : ∀ x, Eb wt (ρb x) (ot x) (c x)) (he : ∀ x, Ep we (ρb x) (oe x) (.fr (e (f x)))) : Ep (wLcG C vs p wi wt we) ρ (oi ++ (oC ++ [∀ x ∈ xs, All (ot x) ∧ (c x = true → All (oe x))])) (.fr (eL e ((xs.filter c).map f))) := fun P o q => by
  obtain ⟨q1, q2⟩ := all_app.mp o
  obtain ⟨q2, q3, _⟩ := all_app.mp q2
  exact lc_core hi hC hp ht he P q1 q2 q3 q
theorem ep_lc0 {τ : α → T} {xs : List α} {oC : List Prop} {ρb : α → Rho} {c : α → Bool} {e : β → D} {f : α → β} (hi : Ei wi ρ oi fl (xs.map τ)) (hC : All oC → C (xs.map τ)) (hp : ∀ x, bindP p (τ x) (wipeR ρ vs) = some (ρb x)) (ht : ∀ x, Eb wt (ρb x) [] (c x)) (he : ∀ x, Ep we (ρb x) [] (.fr (e (f x)))) : Ep (wLcG C vs p wi wt we) ρ (oi ++ oC) (.fr (eL e ((xs.filter c).map f))) := fun P o q => by
  obtain ⟨q1, q2⟩ := all_app.mp o
  exact lc_core hi hC hp ht he P q1 q2 (fun _ _ => ⟨trivial, fun _ => trivial⟩) q
theorem ep_map {τ : α → T} {xs : List α} {oC : List Prop} {ρb : α → Rho} {oe : α → List Prop} {e : β → D} {f : α → β} (hi : Ei wi ρ oi fl (xs.map τ)) (hC : All oC → C (xs.map τ)) (hp : ∀ x, bindP p (τ x) (wipeR ρ vs) = some (ρb x)) (he : ∀ x, Ep we (ρb x) (oe x) (.fr (e (f x)))) : Ep (wLcG C vs p wi (fun _ P => P true) we) ρ (oi ++ (oC ++ [∀ x ∈ xs, All (oe x)])) (.fr (eL e (xs.map f))) := fun P o q => by
  obtain ⟨q1, q2⟩ := all_app.mp o
  obtain ⟨q2, q3, _⟩ := all_app.mp q2
  refine lc_core hi hC hp (fun _ => eb_true) he P q1 q2 (fun x hx => ⟨trivial, fun _ => q3 x hx⟩) ?_
  rw [Fl_true]; exact q
theorem ep_map0 {τ : α → T} {xs : List α} {oC : List Prop} {ρb : α → Rho} {e : β → D} {f : α → β} (hi : Ei wi ρ oi fl (xs.map τ)) (hC : All oC → C (xs.map τ)) (hp : ∀ x, bindP p (τ x) (wipeR ρ vs) = some (ρb x)) (he : ∀ x, Ep we (ρb x) [] (.fr (e (f x)))) : Ep (wLcG C vs p wi (fun _ P => P true) we) ρ (oi ++ oC) (.fr (eL e (xs.map f))) := fun P o q => by
  obtain ⟨q1, q2⟩ := all_app.mp o
  refine lc_core hi hC hp (fun _ => eb_true) he P q1 q2 (fun x hx => ⟨trivial, fun _ => trivial⟩) ?_
  rw [Fl_true]; exact q
theorem hC_T : All [] → True := fun _ => trivial
theorem hC_R {τ : α → T} {xs : List α} : All [xs.length ≤ sizeLine] → (xs.map τ).length ≤ sizeLine := fun h => by rw [List.length_map]; exact h.1
/-! ### built-ins -/
structure IsI (t : T) (xs : List Int) : Prop where
  i : (lstD t).bind intsD = some xs
structure IsB (t : T) (xs : List Bool) : Prop where
  i : (lstD t).bind blsD = some xs
theorem ints_map : ∀ xs : List Int, intsD (xs.map D.int) = some xs
  | [] => rfl
  | x :: xs => by rw [List.map_cons, intsD, ints_map xs]; rfl
theorem bls_map : ∀ xs : List Bool, blsD (xs.map D.bl) = some xs
  | [] => rfl
  | x :: xs => by rw [List.map_cons, blsD, bls_map xs]; rfl
theorem frs_map' (ds : List D) : frs (ds.map .fr) = some ds := by
  induction ds with
  | nil => rfl
  | cons d ds ih => rw [List.map_cons, frs_cons, ih]; rfl
theorem ii_L {xs : List Int} : IsI (.fr (eL D.int xs)) xs := ⟨ints_map xs⟩
theorem ii_F {m : Bool} {xs : List Int} : IsI (tF m D.int xs) xs := ⟨by show (frs ((xs.map D.int).map .fr)).bind intsD = _; rw [frs_map']; exact ints_map xs⟩
theorem ii_S {xs : List Int} : IsI (.fr (.scr xs)) xs := ⟨ints_map xs⟩
theorem ib_L {xs : List Bool} : IsB (.fr (eL D.bl xs)) xs := ⟨bls_map xs⟩
theorem ib_F {m : Bool} {xs : List Bool} : IsB (tF m D.bl xs) xs := ⟨by show (frs ((xs.map D.bl).map .fr)).bind blsD = _; rw [frs_map']; exact bls_map xs⟩
theorem o_sum {xs : List Int} (h : IsI t xs) : OpN (o1 oSum) [t] [] (.fr (.int xs.sum)) := fun P _ p => by
  show match (lstD t).bind intsD with | some ns => P (.fr (.int ns.sum)) | none => False
  rw [h.i]; exact p
theorem o_any {xs : List Bool} (h : IsB t xs) : OpN (o1 oAny) [t] [] (.fr (.bl (xs.any id))) := fun P _ p => by
  show match (lstD t).bind blsD with | some ns => P (.fr (.bl (ns.any id))) | none => False
  rw [h.i]; exact p
theorem o_all {xs : List Bool} (h : IsB t xs) : OpN (o1 oAll) [t] [] (.fr (.bl (xs.all id))) := fun P _ p => by
  show match (lstD t).bind blsD with | some ns => P (.fr (.bl (ns.all id))) | none => False
  rw [h.i]; exact p
theorem o_max {xs : List Int} (h : IsI t xs) : OpN oMaxV [t] [xs.max?.isSome = true] (.fr (.int (xs.max?.getD 0))) := fun P q p => by
  have q := q.1
  have : oMaxV [t] P = oMax t P := by cases t with | fr d => cases d <;> rfl | _ => rfl
  rw [this]
  show match ((lstD t).bind intsD).bind List.max? with | some m => P (.fr (.int m)) | none => False
  rw [h.i]
  show match xs.max? with | some m => P (.fr (.int m)) | none => False
  cases hx : xs.max? with
  | none => rw [hx] at q; cases q
  | some m => rw [hx] at p; exact p
theorem o_min {xs : List Int} (h : IsI t xs) : OpN oMinV [t] [xs.min?.isSome = true] (.fr (.int (xs.min?.getD 0))) := fun P q p => by
  have q := q.1
  have : oMinV [t] P = oMin t P := by cases t with | fr d => cases d <;> rfl | _ => rfl
  rw [this]
  show match ((lstD t).bind intsD).bind List.min? with | some m => P (.fr (.int m)) | none => False
  rw [h.i]
  show match xs.min? with | some m => P (.fr (.int m)) | none => False
  cases hx : xs.min? with
  | none => rw [hx] at q; cases q
  | some m => rw [hx] at p; exact p
theorem o_max2 {i j : Int} : OpN oMaxV [.fr (.int i), .fr (.int j)] [] (.fr (.int (max i j))) := fun P _ p => p
theorem o_min2 {i j : Int} : OpN oMinV [.fr (.int i), .fr (.int j)] [] (.fr (.int (min i j))) := fun P _ p => p
theorem o_abs {i : Int} : OpN (o1 oAbs) [.fr (.int i)] [] (.fr (.int (i.natAbs : Int))) := fun P _ p => by
  show P (.fr (.int (if i < 0 then -i else i)))
  rw [show (if i < 0 then -i else i) = (i.natAbs : Int) from by split <;> omega]
  exact p
theorem o_intB {b : Bool} : OpN (o1 oIntV) [.fr (.bl b)] [] (.fr (.int (if b = true then 1 else 0))) := fun P _ p => p
theorem o_intI {i : Int} : OpN (o1 oIntV) [.fr (.int i)] [] (.fr (.int i)) := fun P _ p => p
def numS (l : Tx) : Int := (NumText.digitsVal l : Nat)
theorem o_intS {l : Tx} : OpN (o1 oIntV) [.fr (.str l)] [allDig l = true ∧ l ≠ [] ∧ l.length ≤ 640] (.fr (.int (numS l))) := fun P q p => ⟨q.1.1, q.1.2.1, q.1.2.2, p⟩
structure StrOk (i : Int) : Prop where
  a : i.natAbs.log2 < 1920
  b : (strI i).length ≤ sizeLine
  c : ∀ c ∈ strI i, c < 0x110000
theorem o_str {i : Int} : OpN (o1 oStr) [.fr (.int i)] [StrOk i] (.fr (.str (strI i))) := fun P q p => ⟨q.1.a, q.1.b, q.1.c, p⟩
theorem seq_is {e : α → D} {xs : List α} (h : IsL t (fr e) xs fl) : seqD t = some (xs.map e) := by
  obtain ⟨l, el⟩ := h.el
  unfold seqD
  rw [el]
  show frs (xs.map (fr e)) = _
  rw [← mm]; exact frs_map' _
theorem o_list {e : α → D} {xs : List α} (h : IsL t (fr e) xs fl) : OpN (o1 oList) [t] [] (.fr (eL e xs)) := fun P _ p => by
  show match seqD t with | some ds => P (.fr (.lst ds)) | none => False
  rw [seq_is h]; exact p
theorem o_tuple {e : α → D} {xs : List α} (h : IsL t (fr e) xs fl) : OpN (o1 oTuple) [t] [] (.fr (eQ e xs)) := fun P _ p => by
  show match seqD t with | some ds => P (.fr (.tup ds)) | none => False
  rw [seq_is h]; exact p
/-! ### slices -/
theorem eo_no : Eo wNo ρ [] none := fun P _ p => p
theorem eo_some {i : Int} (h : Ep w ρ os (.fr (.int i))) : Eo (wPart w) ρ os (some i) := fun P o p => h _ o p
theorem cut_map {e : α → β} (xs : List α) (lo hi : Option Int) : cut (xs.map e) lo hi = (cut xs lo hi).map e := by
  unfold cut
  rw [List.length_map, List.map_take, List.map_drop]
def Sl3 (x : T) (lo hi : Option Int) (os : List Prop) (t : T) : Prop := ∀ P : T → Prop, All os → P t → oSl x lo hi P
theorem ep_sl {wl wh : Rho → (Option Int → Prop) → Prop} {lo hi : Option Int} (h : Ep w ρ oa x) (hl : Eo wl ρ ob lo) (hh : Eo wh ρ oc hi) (k : Sl3 x lo hi oo t) : Ep (wSl w wl wh) ρ (oa ++ (ob ++ (oc ++ oo))) t := fun P o p => by
  obtain ⟨q1, q2⟩ := all_app.mp o
  obtain ⟨q2, q3⟩ := all_app.mp q2
  obtain ⟨q3, q4⟩ := all_app.mp q3
  exact h _ q1 (hl _ q2 (hh _ q3 (k _ q4 p)))
theorem s_L {e : α → D} {xs : List α} {lo hi : Option Int} : Sl3 (.fr (eL e xs)) lo hi [] (.fr (eL e (cut xs lo hi))) := fun P _ p => by
  show P (.fr (.lst (cut (xs.map e) lo hi)))
  rw [cut_map]; exact p
theorem s_S {l : Tx} {lo hi : Option Int} : Sl3 (.fr (.str l)) lo hi [] (.fr (.str (cut l lo hi))) := fun P _ p => p
theorem s_F {m : Bool} {e : α → D} {xs : List α} {lo hi : Option Int} : Sl3 (tF m e xs) lo hi [] (.fr (eL e (cut xs lo hi))) := fun P _ p => by
  unfold tF
  rw [oSl_own, cut_map]; exact p
/-! ### texts -/
theorem ep_m1 {op : T → T → (T → Prop) → Prop} {l : Tx} (h : Ep wa ρ oa (.fr (.str l))) (h' : Ep wb ρ ob y) (k : Op2 op (.fr (.str l)) y oo t) : Ep (wM1 op wa wb) ρ (oa ++ (ob ++ oo)) t := fun P o p => by
  obtain ⟨q1, q2⟩ := all_app.mp o
  obtain ⟨q2, q3⟩ := all_app.mp q2
  exact h _ q1 ⟨trivial, h' _ q2 (k _ q3 p)⟩
theorem o_split {l s : Tx} {c : Nat} (h : s = [c]) : Op2 oSplit (.fr (.str l)) (.fr (.str s)) [l.length + 2 ≤ sizeLine] (.fr (eL D.str (splitC c l))) := fun P o p => by
  subst h; exact ⟨o.1, p⟩
theorem o_starts {l s : Tx} : Op2 oStarts (.fr (.str l)) (.fr (.str s)) [] (.fr (.bl (startsC l s))) := fun P o p => p
theorem o_join {s : Tx} {ls : List Tx} (h : IsL t (fr D.str) ls fl) : Op2 oJoin (.fr (.str s)) t [(ls.map (·.length)).sum + ls.length * s.length ≤ 16777216] (.fr (.str (joinL s ls))) := fun P o p => by
  rw [oJoin_str, seq_is h]
  show optP (strsD (ls.map D.str)) _
  rw [strsD_map]; exact ⟨o.1, p⟩
/-! ### list.index -/
def idxL [DecidableEq α] (x : α) : List α → Option Nat
  | [] => none
  | y :: ys => if y = x then some 0 else (idxL x ys).map (· + 1)
theorem idx_map [DecidableEq α] {e : α → D} (f : FlE e) (x : α) : ∀ xs : List α, idxD (e x) (xs.map e) = idxL x xs
  | [] => rfl
  | y :: ys => by
    rw [List.map_cons, idxD, idxL, idx_map f x ys, f.eq]
    by_cases h : y = x <;> simp [h]
structure IsX (t : T) (e : α → D) (xs : List α) : Prop where
  a : (match elems t with
  | some (l, _) => l = true
  | none => False)
  b : (lstT t).bind frs = some (xs.map e)
theorem ix_L {e : α → D} {xs : List α} : IsX (.fr (eL e xs)) e xs := ⟨rfl, by show frs ((xs.map e).map .fr) = _; exact frs_map' _⟩
theorem ix_F {m : Bool} {e : α → D} {xs : List α} : IsX (tF m e xs) e xs := ⟨rfl, by show frs ((xs.map e).map .fr) = _; exact frs_map' _⟩
theorem ep_idx [DecidableEq α] {e : α → D} {xs : List α} {v : α} (f : FlE e) (h : Ep wa ρ oa x) (k : IsX x e xs) (h' : Ep wb ρ ob (.fr (e v))) : Ep (wIdx wa wb) ρ (oa ++ (ob ++ [(idxL v xs).isSome = true])) (.fr (.int (((idxL v xs).getD 0 : Nat) : Int))) := fun P o p => by
  obtain ⟨q1, q2⟩ := all_app.mp o
  obtain ⟨q2, q3, _⟩ := all_app.mp q2
  refine h _ q1 ⟨k.a, h' _ q2 ?_⟩
  rw [k.b]
  refine ⟨f.fl v, by rw [List.all_map, List.all_eq_true]; exact fun y _ => f.fl y, ?_⟩
  show optP (idxD (e v) (xs.map e)) _
  rw [idx_map f]
  cases hx : idxL v xs with
  | none => rw [hx] at q3; cases q3
  | some n => rw [hx] at p; exact p
/-! ### tuples, lists as displayed -/
def Fr (ts : List T) (ds : List D) : Prop := frs ts = some ds
theorem ep_tup {ds : List D} (h : Eps ws ρ os ts) (k : frs ts = some ds) (hl : decide (ts.length ≤ 1000) = true) : Ep (wTup ws) ρ os (.fr (.tup ds)) := fun P o p => h _ o ⟨of_decide_eq_true hl, by
  rw [k]; exact p⟩
theorem ep_lst {ds : List D} (h : Eps ws ρ os ts) (k : frs ts = some ds) (hl : decide (ts.length ≤ 1000) = true) : Ep (wLst ws) ρ os (.fr (.lst ds)) := fun P o p => h _ o ⟨of_decide_eq_true hl, by
  rw [k]; exact p⟩
/-! ### statements -/
theorem sn_set {i : Nat} {d : D} (h : Ep w ρ os (.fr d)) (e : ρ.set i (some (.fr d)) = ρ1) : Sn (sSet i w) ρ os ρ1 := fun E o q => h _ o (by
  show E.nx _
  rw [e]; exact q)
theorem sn_unp {t : T} (h : Ep w ρ os t) (l : t.lentB = true) (e : bindP p t ρ = some ρ1) : Sn (sUnp p w) ρ os ρ1 := fun E o q => h _ o ⟨l, by rw [e]; exact q⟩
theorem sn_par {i j : Nat} {a b : D} (h : Eps ws ρ os [.fr a, .fr b]) (e : (ρ.set i (some (.fr a))).set j (some (.fr b)) = ρ1) : Sn (sPar i j ws) ρ os ρ1 := fun E o q => h _ o (by
  show E.nx _
  rw [e]; exact q)
theorem sn_drop (h : Ep w ρ os t) : Sn (sDrop w) ρ os ρ := fun E o q => h _ o q
def En (w : TWN) (ρ : Rho) (os : List Prop) (ds : List D) : Prop := ∀ P : List D → Prop, All os → P ds → w ρ P
theorem en_lst {ds : List D} (h : Eps ws ρ os ts) (k : frs ts = some ds) (hl : decide (ts.length ≤ 1000) = true) : En (nLst ws) ρ os ds := fun P o p => h _ o ⟨of_decide_eq_true hl, by
  rw [k]; exact p⟩
theorem en_list {e : α → D} {xs : List α} (h : Eps ws ρ os [t]) (k : IsL t (fr e) xs fl) : En (nList ws) ρ os (xs.map e) := fun P o p => h _ o (by
  show match seqD t with | some ds => P ds | none => False
  rw [seq_is k]; exact p)
theorem sn_own {i : Nat} {wn : TWN} {e : α → D} (xs : List α) (h : En wn ρ os (xs.map e)) (hl : decide (i < ρ.length) = true) (e1 : ρ.set i (some (tF true e xs)) = ρ1) : Sn (sOwn i wn) ρ os ρ1 := fun E o q => ⟨of_decide_eq_true hl, h _ o (by
  show E.nx _
  unfold tF at e1
  rw [e1]; exact q)⟩
theorem tF_snoc {m : Bool} {e : α → D} (xs : List α) (v : α) : T.lst m ((xs.map e).map .fr ++ [.fr (e v)]) = tF m e (xs ++ [v]) := by
  unfold tF; rw [List.map_append, List.map_append]; rfl
theorem tF_app {m : Bool} {e : α → D} (xs ys : List α) : T.lst m ((xs.map e).map .fr ++ (ys.map e).map .fr) = tF m e (xs ++ ys) := by
  unfold tF; rw [List.map_append, List.map_append]
theorem sn_app {i : Nat} {e : α → D} {xs : List α} {v : α} (hl : look ρ i = some (tF true e xs)) (h : Ep w ρ os (.fr (e v))) (e1 : ρ.set i (some (tF true e (xs ++ [v]))) = ρ1) : Sn (sAppend i w) ρ (os ++ [xs.length < sizeLine]) ρ1 := fun E o q => by
  obtain ⟨q1, q2, _⟩ := all_app.mp o
  rw [sAppend_eq, hl]
  refine h _ q1 ⟨by rw [List.length_map, List.length_map]; exact q2, ?_⟩
  rw [tF_snoc, e1]; exact q
theorem sn_ext {i : Nat} {e : α → D} {xs ys : List α} (hl : look ρ i = some (tF true e xs)) (h : Ep w ρ os (.fr (eL e ys))) (e1 : ρ.set i (some (tF true e (xs ++ ys))) = ρ1) : Sn (sExtend i w) ρ (os ++ [xs.length + ys.length ≤ sizeLine]) ρ1 := fun E o q => by
  obtain ⟨q1, q2, _⟩ := all_app.mp o
  rw [sExtend_eq, hl]
  refine h _ q1 ⟨by rw [List.length_map, List.length_map, List.length_map]; exact q2, ?_⟩
  rw [tF_app, e1]; exact q
theorem sn_aug {i : Nat} {o : T → T → (T → Prop) → Prop} {t u : T} {d : D} (hl : look ρ i = some t) (h : Ep w ρ os u) (k : Op2 o t u oo (.fr d)) (e1 : ρ.set i (some (.fr d)) = ρ1) : Sn (sAug i o w) ρ (os ++ oo) ρ1 := fun E q p => by
  obtain ⟨q1, q2⟩ := all_app.mp q
  unfold sAug
  rw [hl]
  refine h _ q1 (k _ q2 ?_)
  show E.nx _
  rw [e1]; exact p
theorem rg_retOwn {i : Nat} {e : α → D} {xs : List α} {good : M → ET → Prop} {m : M} (hl : look ρ i = some (tF true e xs)) (k : ∀ E, good m E → E.rt (.fr (eL e xs)) (ρ.set i (some (.fr (eL e xs))))) : Rg (sSeq (sRetOwn i) W2) ρ [] good m := fun E o g => by
  show sRetOwn i _ ρ
  rw [sRetOwn_eq, hl]
  show optP (frs ((xs.map e).map .fr)) _
  rw [frs_map']
  exact k E g
theorem rg_retN {good : M → ET → Prop} {m : M} (k : ∀ E, good m E → E.rt (.fr .non) ρ) : Rg (sSeq sRetN W2) ρ [] good m := fun E o g => k E g
end
/-! ### defs -/
/-- a pure def's exits -/
def rtG {R : Type} (e : R → D) : R → ET → Prop := fun r E => ∀ ρ, E.rt (.fr (e r)) ρ
theorem rg_pure {R : Type} {W : TSW} {ρ : Rho} {os : List Prop} {e : R → D} {r : R} {Q : D → Prop} (h : Rg W ρ os (rtG e) r) (o : All os) (q : Q (e r)) : W { nx := fun _ => Q .non, rt := fun t _ => asD Q t } ρ := h _ o fun _ => q
end TL
set_option Elab.async false
set_option linter.all false
set_option maxRecDepth 100000
set_option maxHeartbeats 1000000
/-! TL34: typed readings of what draws: whatever may come. -/
namespace TL
open PySem PySem.Spec PyProof.Rows L2
abbrev WPt (α : Type) := (α → Prop) → Prop
section
variable {M N S α β γ : Type}
variable {W W1 W2 W3 Wa Wb : TSW} {ρ ρ1 : Rho} {os oa ob oc oi oo oC : List Prop} {w wa wb we : TW} {ws : TWs} {u u' wt : TB} {x y t : T} {ts : List T} {fl : Bool} {C : List T → Prop} {p : Pat} {vs : List Nat} {wi : TWI} {τ : α → T} {good : M → ET → Prop}
def Ew (w : TW) (ρ : Rho) (τ : α → T) (μ : WPt α) : Prop := ∀ (P : T → Prop) (Q : α → Prop), (∀ a, Q a → P (τ a)) → μ Q → w ρ P
def Ews (w : TWs) (ρ : Rho) (τ : α → List T) (μ : WPt α) : Prop := ∀ (P : List T → Prop) (Q : α → Prop), (∀ a, Q a → P (τ a)) → μ Q → w ρ P
def Ebw (u : TB) (ρ : Rho) (μ : WPt Bool) : Prop := ∀ (P : Bool → Prop) (Q : Bool → Prop), (∀ a, Q a → P a) → μ Q → u ρ P
def Eiw (wi : TWI) (ρ : Rho) (fl : Bool) (τ : α → T) (μ : WPt (List α)) : Prop := ∀ (P : Bool → List T → Prop) (Q : List α → Prop), (∀ a, Q a → P fl (a.map τ)) → μ Q → wi ρ P
def Eow (w : Rho → (Option Int → Prop) → Prop) (ρ : Rho) (μ : WPt (Option Int)) : Prop := ∀ (P Q : Option Int → Prop), (∀ a, Q a → P a) → μ Q → w ρ P
theorem ew_p {a : α} (h : Ep w ρ os (τ a)) : Ew w ρ τ (fun P => All os ∧ P a) := fun P Q i q => h P q.1 (i a q.2)
theorem ew_p0 {a : α} (h : Ep w ρ [] (τ a)) : Ew w ρ τ (fun P => P a) := fun P Q i q => h P trivial (i a q)
theorem ews_p (h : Eps ws ρ os ts) : Ews ws ρ (fun _ : Unit => ts) (fun P => All os ∧ P ()) := fun P Q i q => h P q.1 (i () q.2)
theorem ews_p0 (h : Eps ws ρ [] ts) : Ews ws ρ (fun _ : Unit => ts) (fun P => P ()) := fun P Q i q => h P trivial (i () q)
theorem ews_nil : Ews wNil ρ (fun _ : Unit => []) (fun P => P ()) := fun P Q i q => i () q
theorem ews_cons {μ : WPt α} {τs : α → β → List T} {μs : α → WPt β} (h : Ew w ρ τ μ) (k : ∀ a, Ews ws ρ (τs a) (μs a)) : Ews (wCons w ws) ρ (fun q : α × β => τ q.1 :: τs q.1 q.2) (fun P => μ fun a => μs a fun b => P (a, b)) := fun P Q i q =>
  h _ (fun a => μs a fun b => Q (a, b)) (fun a qa => k a _ _ (fun b qb => i (a, b) qb) qa) q
theorem ews_consP {ta : T} {τs : β → List T} {μs : WPt β} (h : Ep w ρ os ta) (k : Ews ws ρ τs μs) : Ews (wCons w ws) ρ (fun q : β => ta :: τs q) (fun P => All os ∧ μs P) := fun P Q i q =>
  h _ q.1 (k _ _ (fun b qb => i b qb) q.2)
theorem ews_consP0 {ta : T} {τs : β → List T} {μs : WPt β} (h : Ep w ρ [] ta) (k : Ews ws ρ τs μs) : Ews (wCons w ws) ρ (fun q : β => ta :: τs q) μs := fun P Q i q =>
  h _ trivial (k _ _ (fun b qb => i b qb) q)
theorem ews_last {μ : WPt α} (h : Ew w ρ τ μ) (k : Eps ws ρ [] ts) : Ews (wCons w ws) ρ (fun q : α => τ q :: ts) μ := fun P Q i q =>
  h _ Q (fun a qa => k _ trivial (i a qa)) q
theorem ew2 {o : T → T → (T → Prop) → Prop} {τa : α → T} {τb : β → T} {τc : γ → T} {μa : WPt α} {μb : WPt β} {o3 : α → β → List Prop} {f : α → β → γ} (ha : Ew wa ρ τa μa) (hb : Ew wb ρ τb μb) (h : ∀ a b, Op2 o (τa a) (τb b) (o3 a b) (τc (f a b))) : Ew (w2 o wa wb) ρ τc (fun P => μa fun a => μb fun b => All (o3 a b) ∧ P (f a b)) := fun P Q i q =>
  ha _ _ (fun a qa => hb _ _ (fun b qb => h a b _ qb.1 (i _ qb.2)) qa) q
theorem ew2_0 {o : T → T → (T → Prop) → Prop} {τa : α → T} {τb : β → T} {τc : γ → T} {μa : WPt α} {μb : WPt β} {f : α → β → γ} (ha : Ew wa ρ τa μa) (hb : Ew wb ρ τb μb) (h : ∀ a b, Op2 o (τa a) (τb b) [] (τc (f a b))) : Ew (w2 o wa wb) ρ τc (fun P => μa fun a => μb fun b => P (f a b)) := fun P Q i q =>
  ha _ _ (fun a qa => hb _ _ (fun b qb => h a b _ trivial (i _ qb)) qa) q
theorem ew1 {o : T → (T → Prop) → Prop} {τa : α → T} {τc : γ → T} {μa : WPt α} {f : α → γ} (ha : Ew wa ρ τa μa) (h : ∀ a, Op1 o (τa a) [] (τc (f a))) : Ew (w1 o wa) ρ τc (fun P => μa fun a => P (f a)) := fun P Q i q =>
  ha _ _ (fun a qa => h a _ trivial (i _ qa)) q
theorem ewn {o : List T → (T → Prop) → Prop} {τs : α → List T} {τc : γ → T} {μ : WPt α} {o3 : α → List Prop} {f : α → γ} (h : Ews ws ρ τs μ) (k : ∀ a, OpN o (τs a) (o3 a) (τc (f a))) : Ew (wN o ws) ρ τc (fun P => μ fun a => All (o3 a) ∧ P (f a)) := fun P Q i q =>
  h _ _ (fun a qa => k a _ qa.1 (i _ qa.2)) q
theorem ewn0 {o : List T → (T → Prop) → Prop} {τs : α → List T} {τc : γ → T} {μ : WPt α} {f : α → γ} (h : Ews ws ρ τs μ) (k : ∀ a, OpN o (τs a) [] (τc (f a))) : Ew (wN o ws) ρ τc (fun P => μ fun a => P (f a)) := fun P Q i q =>
  h _ _ (fun a qa => k a _ trivial (i _ qa)) q
theorem ew_fn {n : Nat} {Sp : List T → (D → Prop) → Prop} {τs ts' : α → List T} {e : γ → D} {μ : WPt α} {ν : α → WPt γ} (h : Ews ws ρ τs μ) (hl : ∀ a, T.lends (τs a) = ts' a) (hn : ∀ a, (τs a).length = n) (k : ∀ a (P : D → Prop) (Q : γ → Prop), (∀ b, Q b → P (e b)) → ν a Q → Sp (ts' a) P) : Ew (wCall n Sp ws) ρ (fr e) (fun P => μ fun a => ν a P) := fun P Q i q =>
  h _ _ (fun a qa => ⟨hn a, by rw [hl]; exact k a _ _ (fun b qb => i b qb) qa⟩) q
theorem ew_fnP {n : Nat} {Sp : List T → (D → Prop) → Prop} {τs ts' : α → List T} {e : γ → D} {μ : WPt α} {o3 : α → List Prop} {f : α → γ} (h : Ews ws ρ τs μ) (hl : ∀ a, T.lends (τs a) = ts' a) (hn : ∀ a, (τs a).length = n) (k : ∀ a (P : D → Prop), All (o3 a) → P (e (f a)) → Sp (ts' a) P) : Ew (wCall n Sp ws) ρ (fr e) (fun P => μ fun a => All (o3 a) ∧ P (f a)) := fun P Q i q =>
  h _ _ (fun a qa => ⟨hn a, by rw [hl]; exact k a _ qa.1 (i _ qa.2)⟩) q
/-- another typed form of the same tree -/
theorem ew_as {τa : α → T} {τc : γ → T} {μ : WPt α} (f : α → γ) (h : Ew w ρ τa μ) (e : ∀ a, τa a = τc (f a)) : Ew w ρ τc (fun P => μ fun a => P (f a)) := fun P Q i q => h _ _ (fun a qa => by rw [e]; exact i _ qa) q
theorem ew_tup {τs : α → List T} {ds : α → List D} {τc : γ → T} {μ : WPt α} {f : α → γ} (h : Ews ws ρ τs μ) (k : ∀ a, frs (τs a) = some (ds a)) (hl : ∀ a, decide ((τs a).length ≤ 1000) = true) (e : ∀ a, .fr (.tup (ds a)) = τc (f a)) : Ew (wTup ws) ρ τc (fun P => μ fun a => P (f a)) := fun P Q i q =>
  h _ _ (fun a qa => ⟨of_decide_eq_true (hl a), by rw [k]; show P (.fr (.tup (ds a))); rw [e]; exact i _ qa⟩) q
theorem ew_lst {τs : α → List T} {ds : α → List D} {τc : γ → T} {μ : WPt α} {f : α → γ} (h : Ews ws ρ τs μ) (k : ∀ a, frs (τs a) = some (ds a)) (hl : ∀ a, decide ((τs a).length ≤ 1000) = true) (e : ∀ a, .fr (.lst (ds a)) = τc (f a)) : Ew (wLst ws) ρ τc (fun P => μ fun a => P (f a)) := fun P Q i q =>
  h _ _ (fun a qa => ⟨of_decide_eq_true (hl a), by rw [k]; show P (.fr (.lst (ds a))); rw [e]; exact i _ qa⟩) q
/-! tests -/
theorem ebw_p {b : Bool} (h : Eb u ρ os b) : Ebw u ρ (fun P => All os ∧ P b) := fun P Q i q => h P q.1 (i b q.2)
theorem ebw_p0 {b : Bool} (h : Eb u ρ [] b) : Ebw u ρ (fun P => P b) := fun P Q i q => h P trivial (i b q)
theorem ebw_val {μ : WPt Bool} (h : Ew w ρ (fr D.bl) μ) : Ebw (tst w) ρ μ := fun P Q i q => h _ _ (fun b qb => i b qb) q
theorem ebw_not {μ : WPt Bool} (h : Ebw u ρ μ) : Ebw (bNot u) ρ (fun P => μ fun b => P (!b)) := fun P Q i q => h _ _ (fun b qb => i _ qb) q
theorem ebw_and {μ μ' : WPt Bool} (h : Ebw u ρ μ) (k : Ebw u' ρ μ') : Ebw (bAnd u u') ρ (fun P => μ fun b => if b = true then μ' P else P false) := fun P Q i q => h _ _ (fun b qb => by
  cases b with
  | true => exact k _ _ i qb
  | false => exact i _ qb) q
theorem ebw_or {μ μ' : WPt Bool} (h : Ebw u ρ μ) (k : Ebw u' ρ μ') : Ebw (bOr u u') ρ (fun P => μ fun b => if b = true then P true else μ' P) := fun P Q i q => h _ _ (fun b qb => by
  cases b with
  | true => exact i _ qb
  | false => exact k _ _ i qb) q
theorem ew_if {μc : WPt Bool} {μa μb : WPt α} (hc : Ebw u ρ μc) (ha : Ew wa ρ τ μa) (hb : Ew wb ρ τ μb) : Ew (wIfE u wa wb) ρ τ (fun P => μc fun c => if c = true then μa P else μb P) := fun P Q i q => hc _ _ (fun c qc => by
  cases c with
  | true => exact ha _ _ i qc
  | false => exact hb _ _ i qc) q
theorem ew_andV {μ μ' : WPt Bool} (h : Ew wa ρ (fr D.bl) μ) (k : Ew wb ρ (fr D.bl) μ') : Ew (vAnd wa wb) ρ (fr D.bl) (fun P => μ fun b => if b = true then μ' P else P false) := fun P Q i q => h _ _ (fun b qb => by
  show if b = true then wb ρ P else P (.fr (.bl false))
  cases b with
  | true => exact k _ _ i qb
  | false => exact i _ qb) q
theorem ew_orV {μ μ' : WPt Bool} (h : Ew wa ρ (fr D.bl) μ) (k : Ew wb ρ (fr D.bl) μ') : Ew (vOr wa wb) ρ (fr D.bl) (fun P => μ fun b => if b = true then P true else μ' P) := fun P Q i q => h _ _ (fun b qb => by
  show if b = true then P (.fr (.bl true)) else wb ρ P
  cases b with
  | true => exact i _ qb
  | false => exact k _ _ i qb) q
/-! what is walked -/
theorem eiw_p {xs : List α} (h : Ei wi ρ os fl (xs.map τ)) : Eiw wi ρ fl τ (fun P => All os ∧ P xs) := fun P Q i q => h _ q.1 (i _ q.2)
theorem eiw_p0 {xs : List α} (h : Ei wi ρ [] fl (xs.map τ)) : Eiw wi ρ fl τ (fun P => P xs) := fun P Q i q => h _ trivial (i _ q)
theorem eiw_rng1 {μ : WPt β} {j : β → Int} (h : Ews ws ρ (fun b => [.fr (.int (j b))]) μ) : Eiw (wiRng1 ws) ρ true (fr D.int) (fun P => μ fun b => (-(2 ^ 62) ≤ j b ∧ j b < 2 ^ 62) ∧ P (upI 0 (j b).toNat)) := fun P Q i q => h _ _ (fun b qb => ⟨qb.1.1, qb.1.2, by rw [upTo_eq]; exact i _ qb.2⟩) q
theorem eiw_seq {μ : WPt β} {τb : β → T} {τe : α → T} {xs : β → List α} (h : Ew w ρ τb μ) (k : ∀ b, IsL (τb b) τe (xs b) fl) : Eiw (wiSeq w) ρ fl τe (fun P => μ fun b => P (xs b)) := fun P Q i q => h _ _ (fun b qb => by
  obtain ⟨l, e⟩ := (k b).el
  show match elems (τb b) with | some (_, ts) => P (τb b).lentB ts | none => False
  rw [e, (k b).fl]; exact i _ qb) q
/-! comprehensions -/
def mapW (μ : α → WPt β) : List α → WPt (List β)
  | [], P => P []
  | x :: xs, P => μ x fun y => mapW μ xs fun ys => P (y :: ys)
def filtW (μc : α → WPt Bool) (μ : α → WPt β) : List α → WPt (List β)
  | [], P => P []
  | x :: xs, P => μc x fun c => if c = true then μ x fun y => filtW μc μ xs fun ys => P (y :: ys) else filtW μc μ xs P
theorem ew_lcF {μi : WPt (List α)} {μc : α → WPt Bool} {μ : α → WPt β} {ρb : α → Rho} {e : β → D} {oC : List α → List Prop} (hi : Eiw wi ρ fl τ μi) (hC : ∀ xs, All (oC xs) → C (xs.map τ)) (hp : ∀ x, bindP p (τ x) (wipeR ρ vs) = some (ρb x)) (ht : ∀ x, Ebw wt (ρb x) (μc x)) (he : ∀ x, Ew we (ρb x) (fr e) (μ x)) : Ew (wLcG C vs p wi wt we) ρ (fr (eL e)) (fun P => μi fun xs => All (oC xs) ∧ filtW μc μ xs P) := fun P Q iq q => by
  refine hi _ _ (fun xs qx => ⟨hC xs qx.1, ?_⟩) q
  refine ⟨fun i acc => ∃ done : List β, acc = done.map e ∧ filtW μc μ (xs.drop i) (fun ys => Q (done ++ ys)), ⟨[], rfl, qx.2⟩, fun i t acc hx hI => ?_, fun acc hI => ?_⟩
  · rw [List.getElem?_map] at hx
    cases hg : xs[i]? with
    | none => rw [hg] at hx; cases hx
    | some x =>
      rw [hg] at hx
      cases hx
      obtain ⟨done, rfl, hd⟩ := hI
      rw [drop_get hg] at hd
      rw [hp]
      refine ht x _ _ (fun c qc => ?_) hd
      cases c with
      | true =>
        refine he x _ _ (fun y qy => ?_) qc
        refine ⟨done ++ [y], by rw [List.map_append]; rfl, ?_⟩
        simpa [List.append_assoc] using qy
      | false => exact ⟨done, rfl, qc⟩
  · obtain ⟨done, rfl, hd⟩ := hI
    rw [List.length_map, List.drop_length] at hd
    refine iq _ ?_
    simpa [filtW] using hd
theorem mapW_eq {μ : α → WPt β} : ∀ (xs : List α) (P : List β → Prop), mapW μ xs P = filtW (fun _ P => P true) μ xs P := by
  intro xs
  induction xs with
  | nil => intro P; rfl
  | cons x xs ih =>
    intro P
    show (μ x fun y => mapW μ xs fun ys => P (y :: ys)) = (μ x fun y => filtW _ μ xs fun ys => P (y :: ys))
    congr 1; funext y; exact ih _
theorem ew_lc {μi : WPt (List α)} {μ : α → WPt β} {ρb : α → Rho} {e : β → D} {oC : List α → List Prop} (hi : Eiw wi ρ fl τ μi) (hC : ∀ xs, All (oC xs) → C (xs.map τ)) (hp : ∀ x, bindP p (τ x) (wipeR ρ vs) = some (ρb x)) (he : ∀ x, Ew we (ρb x) (fr e) (μ x)) : Ew (wLcG C vs p wi (fun _ P => P true) we) ρ (fr (eL e)) (fun P => μi fun xs => All (oC xs) ∧ mapW μ xs P) := fun P Q i q =>
  ew_lcF (wt := fun _ P => P true) (μc := fun _ P => P true) hi hC hp (fun x P Q i q => i _ q) he P Q i (by
    have e : (fun xs => All (oC xs) ∧ filtW (fun _ P => P true) μ xs Q) = fun xs => All (oC xs) ∧ mapW μ xs Q := funext fun xs => by rw [mapW_eq]
    show μi _
    rw [e]; exact q)
theorem hCw_T : ∀ xs : List α, All [] → True := fun _ _ => trivial
theorem hCw_R : ∀ xs : List α, All [xs.length ≤ sizeLine] → (xs.map τ).length ≤ sizeLine := fun xs h => by rw [List.length_map]; exact h.1
/-- what holds of all that may come, elementwise -/
theorem mapW_of {μ : α → WPt β} (R : α → β → Prop) (up : ∀ x (P Q : β → Prop), (∀ y, P y → Q y) → μ x P → μ x Q) : ∀ (xs : List α) (P : List β → Prop), (∀ x ∈ xs, μ x (R x)) → (∀ ys, Paired R xs ys → P ys) → mapW μ xs P
  | [], P, _, k => k [] .nil
  | x :: xs, P, h, k => up x _ _ (fun y hy => mapW_of R up xs _ (fun z hz => h z (List.mem_cons_of_mem _ hz)) fun ys hys => k _ (.cons hy hys)) (h x (List.mem_cons_self ..))
/-! ### statements -/
def Rw (W : TSW) (ρ : Rho) (good : M → ET → Prop) (μ : WPt M) : Prop := ∀ (E : ET) (Q : M → Prop), (∀ m, Q m → good m E) → μ Q → W E ρ
def Sw (W : TSW) (ρ : Rho) (ρ1 : α → Rho) (μ : WPt α) : Prop := ∀ (E : ET) (Q : α → Prop), (∀ a, Q a → E.nx (ρ1 a)) → μ Q → W E ρ
theorem rw_p {m : M} (h : Rg W ρ os good m) : Rw W ρ good (fun P => All os ∧ P m) := fun E Q i q => h E q.1 (i _ q.2)
theorem rw_p0 {m : M} (h : Rg W ρ [] good m) : Rw W ρ good (fun P => P m) := fun E Q i q => h E trivial (i _ q)
theorem rw_seq {ρ1 : α → Rho} {μ1 : WPt α} {μ : α → WPt M} (h : Sw W1 ρ ρ1 μ1) (k : ∀ a, Rw W2 (ρ1 a) good (μ a)) : Rw (sSeq W1 W2) ρ good (fun P => μ1 fun a => μ a P) := fun E Q i q => h _ _ (fun a qa => k a _ _ i qa) q
theorem rw_let {ρ1 : α → Rho} {μ : α → WPt M} (v : α) (h : Sn W1 ρ os (ρ1 v)) (k : ∀ a, Rw W2 (ρ1 a) good (μ a)) : Rw (sSeq W1 W2) ρ good (fun P => All os ∧ μ v P) := fun E Q i q => h _ q.1 (k v _ _ i q.2)
theorem rw_let0 {ρ1 : α → Rho} {μ : α → WPt M} (v : α) (h : Sn W1 ρ [] (ρ1 v)) (k : ∀ a, Rw W2 (ρ1 a) good (μ a)) : Rw (sSeq W1 W2) ρ good (fun P => μ v P) := fun E Q i q => h _ trivial (k v _ _ i q)
theorem rw_sn {μ : WPt M} (h : Sn W1 ρ os ρ1) (k : Rw W2 ρ1 good μ) : Rw (sSeq W1 W2) ρ good (fun P => All os ∧ μ P) := fun E Q i q => h _ q.1 (k _ _ i q.2)
theorem rw_sn0 {μ : WPt M} (h : Sn W1 ρ [] ρ1) (k : Rw W2 ρ1 good μ) : Rw (sSeq W1 W2) ρ good μ := fun E Q i q => h _ trivial (k _ _ i q)
theorem rw_if {μc : WPt Bool} {μa μb : WPt M} (hc : Ebw u ρ μc) (ha : Rw (sSeq Wa W2) ρ good μa) (hb : Rw (sSeq Wb W2) ρ good μb) : Rw (sSeq (sIf u Wa Wb) W2) ρ good (fun P => μc fun c => if c = true then μa P else μb P) := fun E Q i q => hc _ _ (fun c qc => by
  cases c with
  | true => exact ha _ _ i qc
  | false => exact hb _ _ i qc) q
theorem rw_assoc {μ : WPt M} (h : Rw (sSeq W1 (sSeq W2 W3)) ρ good μ) : Rw (sSeq (sSeq W1 W2) W3) ρ good μ := h
theorem rw_skip {μ : WPt M} (h : Rw W2 ρ good μ) : Rw (sSeq sNext W2) ρ good μ := h
theorem rw_end {μ : WPt M} (h : Rw (sSeq W sNext) ρ good μ) : Rw W ρ good μ := h
theorem rw_ret {μ : WPt α} {g : α → M} (h : Ew w ρ τ μ) (k : ∀ a E, good (g a) E → asD (fun d => E.rt (.fr d) ρ) (τ a)) : Rw (sSeq (sRet w) W2) ρ good (fun P => μ fun a => P (g a)) := fun E Q i q => h _ _ (fun a qa => by
  have := k a E (i _ qa)
  cases hh : τ a with
  | fr d => rw [hh] at this; exact this
  | _ => rw [hh] at this; exact this.elim) q
theorem rw_nx {m : M} (k : ∀ E, good m E → E.nx ρ) : Rw sNext ρ good (fun P => P m) := fun E Q i q => k E (i _ q)
theorem rw_wipe (vs : List Nat) {r : Rho} {μ : WPt M} (e : wipeR ρ vs = r) (h : Rw W r good μ) : Rw (sWipe vs W) ρ good μ := fun E Q i q => by
  show W E (wipeR ρ vs)
  rw [e]; exact h E Q i q
theorem rw_join {vs : List Nat} {R : S → Rho} {μ1 : WPt S} {μ : S → WPt M} (h : Rw W1 ρ (nxG vs R) μ1) (k : ∀ s, Rw W2 (R s) good (μ s)) : Rw (sSeq W1 (sWipe vs W2)) ρ good (fun P => μ1 fun s => μ s P) := fun E Q i q =>
  h _ _ (fun s qs r e => by show W2 E (wipeR r vs); rw [e]; exact k s E Q i qs) q
theorem sw_set {i : Nat} {e : α → D} {μ : WPt α} {ρ1 : α → Rho} (h : Ew w ρ (fr e) μ) (k : ∀ a, ρ.set i (some (.fr (e a))) = ρ1 a) : Sw (sSet i w) ρ ρ1 μ := fun E Q iq q => h _ _ (fun a qa => by
  show E.nx _
  rw [k]; exact iq a qa) q
theorem sw_unp {μ : WPt α} {ρ1 : α → Rho} (h : Ew w ρ τ μ) (l : ∀ a, (τ a).lentB = true) (k : ∀ a, bindP p (τ a) ρ = some (ρ1 a)) : Sw (sUnp p w) ρ ρ1 μ := fun E Q iq q => h _ _ (fun a qa => ⟨l a, by rw [k]; exact iq a qa⟩) q
theorem sw_par {i j : Nat} {da db : α → D} {μ : WPt α} {ρ1 : α → Rho} (h : Ews ws ρ (fun a => [.fr (da a), .fr (db a)]) μ) (k : ∀ a, (ρ.set i (some (.fr (da a)))).set j (some (.fr (db a))) = ρ1 a) : Sw (sPar i j ws) ρ ρ1 μ := fun E Q iq q => h _ _ (fun a qa => by
  show E.nx _
  rw [k]; exact iq a qa) q
theorem sw_app {i : Nat} {e : α → D} {xs : List α} {μ : WPt α} {ρ1 : α → Rho} (hl : look ρ i = some (tF true e xs)) (h : Ew w ρ (fr e) μ) (k : ∀ v, ρ.set i (some (tF true e (xs ++ [v]))) = ρ1 v) : Sw (sAppend i w) ρ ρ1 (fun P => μ fun v => xs.length < sizeLine ∧ P v) := fun E Q iq q => by
  rw [sAppend_eq, hl]
  refine h _ _ (fun v qv => ⟨by rw [List.length_map, List.length_map]; exact qv.1, ?_⟩) q
  rw [tF_snoc, k]; exact iq v qv.2
/-! ### loops -/
def loopWN (μ : S → α → WPt S) : List α → S → WPt S
  | [], s, P => P s
  | x :: xs, s, P => μ s x fun s' => loopWN μ xs s' P
def loopWF (μ : S → α → WPt (Step S M)) : List α → S → WPt (Step S M)
  | [], s, P => P (.nx s)
  | x :: xs, s, P => μ s x fun r => r.on (fun s' => loopWF μ xs s' P) fun m => P (.rt m)
theorem forVw_ind {vs : List Nat} {p : Pat} {wi : TWI} {E : ET} {μi : WPt (List α)} {Q : List α → Prop} (hi : Eiw wi ρ true τ μi) (hq : μi Q) (I : List α → Rho → Prop) (h0 : ∀ xs, Q xs → I xs (wipeR ρ vs))
    (hs : ∀ x r ρ', I (x :: r) ρ' → ∃ ρ1, bindP p (τ x) ρ' = some ρ1 ∧ Wb { E with nx := fun r' => I r (wipeR r' vs), ct := fun r' => I r (wipeR r' vs), bk := E.nx } ρ1) (hd : ∀ r, I [] (wipeR r vs) → E.nx r) : sForV vs p wi Wb E ρ := by
  refine hi _ _ (fun xs qx => ⟨rfl, fun i r => I (xs.drop i) r, h0 xs qx, fun i t r ht hI => ?_, fun r hI => hd r (by rw [List.length_map, List.drop_length] at hI; exact hI)⟩) hq
  rw [List.getElem?_map] at ht
  cases hx : xs[i]? with
  | none => rw [hx] at ht; cases ht
  | some x =>
    rw [hx] at ht
    cases ht
    rw [drop_get hx] at hI
    exact hs x _ r hI
theorem rw_forN {vs : List Nat} {p : Pat} {wi : TWI} {μi : WPt (List α)} {R : S → Rho} {ρb : S → α → Rho} {μb : S → α → WPt S} {μ : S → WPt M} (s0 : S) (hi : Eiw wi ρ true τ μi) (h0 : wipeR ρ vs = R s0) (hp : ∀ s x, bindP p (τ x) (R s) = some (ρb s x))
    (hb : ∀ s x, Rw Wb (ρb s x) (nxG vs R) (μb s x)) (k : ∀ s, Rw W2 (R s) good (μ s)) : Rw (sSeq (sForV vs p wi Wb) (sWipe vs W2)) ρ good (fun P => μi fun xs => loopWN μb xs s0 fun s => μ s P) := fun E Q iq q => by
  refine forVw_ind hi q (fun r ρ' => ∃ s, ρ' = R s ∧ loopWN μb r s fun s => μ s Q) (fun xs qx => ⟨s0, h0, qx⟩) ?_ ?_
  · rintro x r ρ' ⟨s, rfl, hl⟩
    exact ⟨_, hp s x, hb s x _ _ (fun s' q' r' e => ⟨s', e, q'⟩) hl⟩
  · rintro r ⟨s, e, hl⟩
    show W2 E (wipeR r vs)
    rw [e]
    exact k s E Q iq hl
theorem rw_forF {vs : List Nat} {p : Pat} {wi : TWI} {μi : WPt (List α)} {R : S → Rho} {ρb : S → α → Rho} {gF : N → ET → Prop} {μb : S → α → WPt (Step S N)} {μ : S → WPt M} {inj : N → M} (s0 : S) (hi : Eiw wi ρ true τ μi) (h0 : wipeR ρ vs = R s0) (hp : ∀ s x, bindP p (τ x) (R s) = some (ρb s x))
    (hb : ∀ s x, Rw Wb (ρb s x) (stG vs R gF) (μb s x)) (k : ∀ s, Rw W2 (R s) good (μ s)) (hj : ∀ n E f g h, good (inj n) E → gF n { E with nx := f, ct := g, bk := h }) : Rw (sSeq (sForV vs p wi Wb) (sWipe vs W2)) ρ good (fun P => μi fun xs => loopWF μb xs s0 fun r => r.on (fun s => μ s P) fun n => P (inj n)) := fun E Q iq q => by
  refine forVw_ind hi q (fun r ρ' => ∃ s, ρ' = R s ∧ loopWF μb r s fun r => r.on (fun s => μ s Q) fun n => Q (inj n)) (fun xs qx => ⟨s0, h0, qx⟩) ?_ ?_
  · rintro x r ρ' ⟨s, rfl, hl⟩
    refine ⟨_, hp s x, hb s x _ _ (fun m q' => ?_) hl⟩
    cases m with
    | nx s' => exact fun r' e => ⟨s', e, q'⟩
    | rt n => exact hj n E _ _ _ (iq _ q')
  · rintro r ⟨s, e, hl⟩
    show W2 E (wipeR r vs)
    rw [e]
    exact k s E Q iq hl
/-- a pure def that draws -/
theorem rw_pure {R : Type} {W : TSW} {ρ : Rho} {e : R → D} {μ : WPt R} {Q : D → Prop} {q : R → Prop} (h : Rw W ρ (rtG e) μ) (iq : ∀ r, q r → Q (e r)) (o : μ q) : W { nx := fun _ => Q .non, rt := fun t _ => asD Q t } ρ := h _ _ (fun r qr _ => iq r qr) o
end
end TL
set_option Elab.async false
set_option linter.all false
set_option maxRecDepth 100000
set_option maxHeartbeats 1000000
/-! TL35: more for the typed readings. -/
namespace TL
open PySem PySem.Spec PyProof.Rows L2
section
variable {M N S α β γ : Type}
variable {W W1 W2 W3 Wa Wb K : TSW} {ρ ρ1 : Rho} {os oa ob oc oi oo oC : List Prop} {w wa wb we : TW} {ws : TWs} {u u' wt : TB} {x y t : T} {ts : List T} {fl : Bool} {p : Pat} {vs : List Nat} {good : M → ET → Prop} {m : M}
theorem rg_wa (h : Rg (sSeq W1 (sWipe vs (sSeq W2 K))) ρ os good m) : Rg (sSeq W1 (sSeq (sWipe vs W2) K)) ρ os good m := h
theorem rw_wa {μ : WPt M} (h : Rw (sSeq W1 (sWipe vs (sSeq W2 K))) ρ good μ) : Rw (sSeq W1 (sSeq (sWipe vs W2) K)) ρ good μ := h
def unO [Inhabited α] (x : Option α) : α := x.getD default
theorem ep_unO [Inhabited α] {e : α → D} {x : Option α} (h : Ep w ρ os (.fr (eO e x))) : Ep w ρ (os ++ [x.isSome = true]) (.fr (e (unO x))) := fun P o p => by
  obtain ⟨q1, q2, _⟩ := all_app.mp o
  refine h _ q1 ?_
  cases x with
  | none => cases q2
  | some x => exact p
theorem loc_of {sc : Scope} {x : Str} (h : (match sc.names.lookup x with
  | some .local => true
  | some .cell => true
  | _ => false) = true) : L2.Loc sc x := by
  unfold L2.Loc
  cases q : sc.names.lookup x with
  | none => rw [q] at h; cases h
  | some k => cases k <;> first | exact .inl rfl | exact .inr rfl | (rw [q] at h; cases h)
theorem ep_unOL [Inhabited α] {e : α → D} {xs : List (Option α)} (h : Ep w ρ os (.fr (eL (eO e) xs))) : Ep w ρ (os ++ [∀ x ∈ xs, x.isSome = true]) (.fr (eL e (xs.map unO))) := fun P o p => by
  obtain ⟨q1, q2, _⟩ := all_app.mp o
  refine h _ q1 ?_
  unfold eL at p ⊢
  rw [List.map_map] at p
  have : xs.map (eO e) = xs.map (e ∘ unO) := List.map_congr_left fun x hx => by
    have := q2 x hx
    cases x with
    | none => cases this
    | some x => rfl
  rw [this]; exact p
theorem ep_tupE {d : D} (h : Eps ws ρ os ts) (k : (frs ts).map D.tup = some d) (hl : decide (ts.length ≤ 1000) = true) : Ep (wTup ws) ρ os (.fr d) := by
  cases q : frs ts with
  | none => rw [q] at k; cases k
  | some ds => rw [q] at k; cases k; exact ep_tup h q hl
theorem ep_lstE {d : D} (h : Eps ws ρ os ts) (k : (frs ts).map D.lst = some d) (hl : decide (ts.length ≤ 1000) = true) : Ep (wLst ws) ρ os (.fr d) := by
  cases q : frs ts with
  | none => rw [q] at k; cases k
  | some ds => rw [q] at k; cases k; exact ep_lst h q hl
section
variable {τa : α → T} {τb : β → T} {τc : γ → T}
theorem ew_m1 {op : T → T → (T → Prop) → Prop} {l : Tx} {μ : WPt β} {o3 : β → List Prop} {f : β → γ} (h : Ep wa ρ [] (.fr (.str l))) (h' : Ew wb ρ τb μ) (k : ∀ b, Op2 op (.fr (.str l)) (τb b) (o3 b) (τc (f b))) : Ew (wM1 op wa wb) ρ τc (fun P => μ fun b => All (o3 b) ∧ P (f b)) := fun P Q i q =>
  h _ trivial ⟨trivial, h' _ _ (fun b qb => k b _ qb.1 (i _ qb.2)) q⟩
theorem ew_tupE {τs : α → List T} {e : γ → D} {μ : WPt α} {f : α → γ} (h : Ews ws ρ τs μ) (k : ∀ a, (frs (τs a)).map D.tup = some (e (f a))) (hl : ∀ a, decide ((τs a).length ≤ 1000) = true) : Ew (wTup ws) ρ (fr e) (fun P => μ fun a => P (f a)) := fun P Q i q =>
  h _ _ (fun a qa => ⟨of_decide_eq_true (hl a), by
    have := k a
    cases q : frs (τs a) with
    | none => rw [q] at this; cases this
    | some ds =>
      rw [q] at this
      have e1 : D.tup ds = e (f a) := Option.some.inj this
      show P (.fr (.tup ds))
      rw [e1]; exact i _ qa⟩) q
theorem ew_lstE {τs : α → List T} {e : γ → D} {μ : WPt α} {f : α → γ} (h : Ews ws ρ τs μ) (k : ∀ a, (frs (τs a)).map D.lst = some (e (f a))) (hl : ∀ a, decide ((τs a).length ≤ 1000) = true) : Ew (wLst ws) ρ (fr e) (fun P => μ fun a => P (f a)) := fun P Q i q =>
  h _ _ (fun a qa => ⟨of_decide_eq_true (hl a), by
    have := k a
    cases q : frs (τs a) with
    | none => rw [q] at this; cases this
    | some ds =>
      rw [q] at this
      have e1 : D.lst ds = e (f a) := Option.some.inj this
      show P (.fr (.lst ds))
      rw [e1]; exact i _ qa⟩) q
theorem sw_setR {i : Nat} {μ : WPt Unit} {ρ1 : Unit → Rho} (h : Ew w ρ (fun _ : Unit => T.fr D.rng) μ) (k : ∀ a, ρ.set i (some (.fr .rng)) = ρ1 a) : Sw (sSet i w) ρ ρ1 μ := fun E Q iq q => h _ _ (fun a qa => by
  show E.nx _
  rw [k a]; exact iq a qa) q
end
theorem lends_frs (ds : List D) : T.lends (ds.map .fr) = ds.map .fr := lends_fr ds
theorem lend_tF (m : Bool) (e : α → D) (xs : List α) : (tF m e xs).lend = tF false e xs := lend_own m _
theorem lends_cons' (t : T) (ts : List T) : T.lends (t :: ts) = t.lend :: T.lends ts := rfl
end
end TL
set_option Elab.async false
set_option linter.all false
set_option maxRecDepth 100000
set_option maxHeartbeats 1000000
/-! TL36: own things within own things, typed: places, new dicts and lists, calls that change. -/
namespace TL
open PySem PySem.Spec PyProof.Rows L2
section
variable {M N S α β γ : Type}
variable {W W1 W2 : TSW} {ρ ρ1 : Rho} {os oa ob oc oi oo oC : List Prop} {w wa wb we wo wk : TW} {ws : TWs} {wt : TB} {x y t : T} {ts : List T} {fl : Bool} {C : List T → Prop} {p : Pat} {vs : List Nat} {wi : TWI} {wp : TWP} {i : Nat} {π : List PStep}
/-! ### places -/
def Epl (wp : TWP) (ρ : Rho) (os : List Prop) (i : Nat) (π : List PStep) : Prop := ∀ P : Nat → List PStep → Prop, All os → P i π → wp ρ P
/-- v stands at π in slot i, and may be exchanged there -/
structure Foc (ρ : Rho) (i : Nat) (π : List PStep) (τ : α → T) (v : α) (put : α → Rho) : Prop where
  at' : tAt ρ i π = some (τ v)
  up : ∀ v', chgAt ρ i π (τ v') = put v'
theorem Foc.as {τ : α → T} {v : α} {put put' : α → Rho} (h : Foc ρ i π τ v put) (e : ∀ v, put v = put' v) : Foc ρ i π τ v put' := ⟨h.at', fun v' => by rw [h.up, e]⟩
theorem epl_var {t : T} (h : look ρ i = some t) : Epl (pVar i) ρ [] i [] := fun P _ q => by rw [pVar_eq, h]; exact q
theorem foc_var {τ : α → T} {v : α} {put : α → Rho} (h : look ρ i = some (τ v)) (e : ∀ v', ρ.set i (some (τ v')) = put v') : Foc ρ i [] τ v put := ⟨by rw [tAt_eq, h]; rfl, fun v' => by rw [chgAt_eq, h]; exact e v'⟩
theorem at_snoc (st : PStep) : ∀ (π : List PStep) (t : T), T.at (π ++ [st]) t = (T.at π t).bind (T.get st)
  | [], t => by rw [List.nil_append, at_cons, at_nil]; show (T.get st t).bind (T.at []) = T.get st t; cases T.get st t <;> rfl
  | s :: π, t => by
    rw [List.cons_append, at_cons, at_cons]
    cases T.get s t with
    | none => rfl
    | some c => exact at_snoc st π c
theorem upd_snoc (st : PStep) (c' : T) : ∀ (π : List PStep) (t s c : T), T.at π t = some s → s.get st = some c → T.upd (π ++ [st]) t c' = T.upd π t (s.put st c')
  | [], t, s, c, h, g => by
    cases h
    show T.upd [st] t c' = T.put st t c'
    unfold T.upd
    rw [g]
    try rfl
  | s0 :: π, t, s, c, h, g => by
    rw [at_cons] at h
    rw [List.cons_append]
    unfold T.upd
    cases q : T.get s0 t with
    | none => exact absurd h (by rw [q]; exact fun z => nomatch z)
    | some c0 =>
      rw [q] at h
      show T.put s0 t (T.upd (π ++ [st]) c0 c') = T.put s0 t (T.upd π c0 _)
      rw [upd_snoc st c' π c0 s c h g]
/-- one step further -/
theorem foc_step {τ : α → T} {a : α} {put : α → Rho} {τf : β → T} {b0 : β} {st : PStep} {s : β → α} (h : Foc ρ i π τ a put) (hg : T.get st (τ a) = some (τf b0)) (hs : ∀ b, T.put st (τ a) (τf b) = τ (s b)) : Foc ρ i (π ++ [st]) τf b0 (fun b => put (s b)) := by
  have h1 := h.at'
  rw [tAt_eq] at h1
  cases q : look ρ i with
  | none => rw [q] at h1; cases h1
  | some t =>
    rw [q] at h1
    have h1 : T.at π t = some (τ a) := h1
    refine ⟨by rw [tAt_eq, q]; show T.at (π ++ [st]) t = _; rw [at_snoc, h1]; exact hg, fun b => ?_⟩
    have h2 := h.up (s b)
    rw [chgAt_eq, q] at h2 ⊢
    rw [← h2]
    show ρ.set i (some (T.upd (π ++ [st]) t (τf b))) = ρ.set i (some (T.upd π t (τ (s b))))
    rw [upd_snoc st _ π t (τ a) _ h1 hg, hs]
theorem setK_ktS {τ : α → T} (k : Tx) (v : α) : ∀ kvs : List (Tx × α), setK (.inr k) (τ v) (ktS τ kvs) = ktS τ (setK k v kvs)
  | [] => rfl
  | (k', u) :: kvs => by
    by_cases h : k' = k
    · simp [ktS, setK, h]
    · have h1 : setK (.inr k) (τ v) (ktS τ ((k', u) :: kvs)) = (.inr k', τ u) :: setK (.inr k) (τ v) (ktS τ kvs) := by simp [ktS, setK, h]
      rw [h1, setK_ktS k v kvs]
      simp [ktS, setK, h]
theorem setK_ktI {τ : α → T} (k : Int) (v : α) : ∀ kvs : List (Int × α), setK (.inl k) (τ v) (ktI τ kvs) = ktI τ (setK k v kvs)
  | [] => rfl
  | (k', u) :: kvs => by
    by_cases h : k' = k
    · simp [ktI, setK, h]
    · have h1 : setK (.inl k) (τ v) (ktI τ ((k', u) :: kvs)) = (.inl k', τ u) :: setK (.inl k) (τ v) (ktI τ kvs) := by simp [ktI, setK, h]
      rw [h1, setK_ktI k v kvs]
      simp [ktI, setK, h]
theorem setK_ktP {τ : α → T} (k : Tx × Tx) (v : α) : ∀ kvs : List ((Tx × Tx) × α), setK [.inr k.1, .inr k.2] (τ v) (ktP τ kvs) = ktP τ (setK k v kvs)
  | [] => rfl
  | (k', u) :: kvs => by
    by_cases h : k' = k
    · subst h; simp [ktP, setK]
    · have h3 : ¬ (k'.1 = k.1 ∧ k'.2 = k.2) := fun z => h (Prod.ext z.1 z.2)
      have h1 : setK [.inr k.1, .inr k.2] (τ v) (ktP τ ((k', u) :: kvs)) = ([.inr k'.1, .inr k'.2], τ u) :: setK [.inr k.1, .inr k.2] (τ v) (ktP τ kvs) := by simp [ktP, setK, h3]
      rw [h1, setK_ktP k v kvs]
      simp [ktP, setK, h]
theorem idxK_ktS {τ : α → T} (k : Tx) : ∀ kvs : List (Tx × α), idxK (.inr k) (ktS τ kvs) = idxK k kvs
  | [] => rfl
  | (k', u) :: kvs => by
    by_cases h : k' = k
    · simp [ktS, idxK, h]
    · have h1 : idxK (.inr k) (ktS τ ((k', u) :: kvs)) = (idxK (.inr k) (ktS τ kvs)).map (· + 1) := by simp [ktS, idxK, h]
      rw [h1, idxK_ktS k kvs]
      simp [idxK, h]
theorem idxK_ktI {τ : α → T} (k : Int) : ∀ kvs : List (Int × α), idxK (.inl k) (ktI τ kvs) = idxK k kvs
  | [] => rfl
  | (k', u) :: kvs => by
    by_cases h : k' = k
    · simp [ktI, idxK, h]
    · have h1 : idxK (.inl k) (ktI τ ((k', u) :: kvs)) = (idxK (.inl k) (ktI τ kvs)).map (· + 1) := by simp [ktI, idxK, h]
      rw [h1, idxK_ktI k kvs]
      simp [idxK, h]
theorem idxK_ktP {τ : α → T} (k : Tx × Tx) : ∀ kvs : List ((Tx × Tx) × α), idxK [.inr k.1, .inr k.2] (ktP τ kvs) = idxK k kvs
  | [] => rfl
  | (k', u) :: kvs => by
    by_cases h : k' = k
    · subst h; simp [ktP, idxK]
    · have h3 : ¬ (k'.1 = k.1 ∧ k'.2 = k.2) := fun z => h (Prod.ext z.1 z.2)
      have h1 : idxK [.inr k.1, .inr k.2] (ktP τ ((k', u) :: kvs)) = (idxK [.inr k.1, .inr k.2] (ktP τ kvs)).map (· + 1) := by simp [ktP, idxK, h3]
      rw [h1, idxK_ktP k kvs]
      simp [idxK, h]
theorem putT_ktS {τ : α → T} (k : Tx) (v : α) (kvs : List (Tx × α)) : putT (.inr k) (τ v) (ktS τ kvs) = ktS τ (putT k v kvs) := by
  unfold putT
  rw [idxK_ktS]
  cases idxK k kvs with
  | none => simp [ktS]
  | some n => exact setK_ktS k v kvs
theorem putT_ktI {τ : α → T} (k : Int) (v : α) (kvs : List (Int × α)) : putT (.inl k) (τ v) (ktI τ kvs) = ktI τ (putT k v kvs) := by
  unfold putT
  rw [idxK_ktI]
  cases idxK k kvs with
  | none => simp [ktI]
  | some n => exact setK_ktI k v kvs
theorem putT_ktP {τ : α → T} (k : Tx × Tx) (v : α) (kvs : List ((Tx × Tx) × α)) : putT [.inr k.1, .inr k.2] (τ v) (ktP τ kvs) = ktP τ (putT k v kvs) := by
  unfold putT
  rw [idxK_ktP]
  cases idxK k kvs with
  | none => simp [ktP]
  | some n => exact setK_ktP k v kvs
theorem foc_keyS [Inhabited α] {m : Bool} {τ : α → T} {kvs : List (Tx × α)} {put : List (Tx × α) → Rho} {k : Tx} (h : Foc ρ i π (tDS m τ) kvs put) (hk : hasK kvs k = true) : Foc ρ i (π ++ [.key (.inr k)]) τ ((getK kvs k).getD default) (fun v => put (setK k v kvs)) := by
  refine foc_step (s := fun v => setK k v kvs) h ?_ fun v => ?_
  · show getK (ktS τ kvs) (.inr k) = _
    rw [getK_ktS]
    unfold hasK at hk
    cases q : getK kvs k with
    | none => rw [q] at hk; cases hk
    | some v => rfl
  · show T.dk m (setK (.inr k) (τ v) (ktS τ kvs)) = _
    rw [setK_ktS]; rfl
theorem foc_keyI [Inhabited α] {m : Bool} {τ : α → T} {kvs : List (Int × α)} {put : List (Int × α) → Rho} {k : Int} (h : Foc ρ i π (tDI m τ) kvs put) (hk : hasK kvs k = true) : Foc ρ i (π ++ [.key (.inl k)]) τ ((getK kvs k).getD default) (fun v => put (setK k v kvs)) := by
  refine foc_step (s := fun v => setK k v kvs) h ?_ fun v => ?_
  · show getK (ktI τ kvs) (.inl k) = _
    rw [getK_ktI]
    unfold hasK at hk
    cases q : getK kvs k with
    | none => rw [q] at hk; cases hk
    | some v => rfl
  · show T.dk m (setK (.inl k) (τ v) (ktI τ kvs)) = _
    rw [setK_ktI]; rfl
theorem epl_keyS {m : Bool} {τ : α → T} {kvs : List (Tx × α)} {put : List (Tx × α) → Rho} {k : Tx} (h : Epl wp ρ oa i π) (f : All oa → Foc ρ i π (tDS m τ) kvs put) (hk : Ep wk ρ ob (.fr (.str k))) : Epl (pKey wp wk) ρ (oa ++ (ob ++ [hasK kvs k = true])) i (π ++ [.key (.inr k)]) := fun P o q => by
  obtain ⟨q1, q2⟩ := all_app.mp o
  obtain ⟨q2, q3, _⟩ := all_app.mp q2
  refine h _ q1 (hk _ q2 ?_)
  rw [(f q1).at']
  show optP (stepOf (tDS m τ kvs) (.fr (.str k))) _
  unfold tDS
  rw [step_dkS, getK_ktS, Option.isSome_map]
  unfold hasK at q3
  rw [if_pos q3]
  exact q
theorem epl_keyI {m : Bool} {τ : α → T} {kvs : List (Int × α)} {put : List (Int × α) → Rho} {k : Int} (h : Epl wp ρ oa i π) (f : All oa → Foc ρ i π (tDI m τ) kvs put) (hk : Ep wk ρ ob (.fr (.int k))) : Epl (pKey wp wk) ρ (oa ++ (ob ++ [hasK kvs k = true])) i (π ++ [.key (.inl k)]) := fun P o q => by
  obtain ⟨q1, q2⟩ := all_app.mp o
  obtain ⟨q2, q3, _⟩ := all_app.mp q2
  refine h _ q1 (hk _ q2 ?_)
  rw [(f q1).at']
  show optP (if (getK (ktI τ kvs) (.inl k)).isSome = true then some (PStep.key (.inl k)) else none) _
  unfold hasK at q3
  rw [getK_ktI, Option.isSome_map, if_pos q3]
  exact q
theorem epl_fld {C : Addr} {f : Str} {m : Bool} {fs : List (Str × T)} {τ : α → T} {a : α} {put : α → Rho} (h : Epl wp ρ oa i π) (fo : All oa → Foc ρ i π τ a put) (e : τ a = .ins m C fs) (g : (getK fs f).isSome = true) : Epl (pFld C f wp) ρ oa i (π ++ [.fld f]) := fun P o q => h _ o (by
  show match tAt ρ i π with | some (.ins _ C' fs) => C' = C ∧ (getK fs f).isSome = true ∧ P i (π ++ [.fld f]) | _ => False
  rw [(fo o).at', e]
  exact ⟨rfl, g, q⟩)
/-! ### changes -/
theorem sn_appP {τ : α → T} {xs : List α} {v : α} {put : List α → Rho} (h : Epl wp ρ oa i π) (f : All oa → Foc ρ i π (tL true τ) xs put) (hv : Ep wo ρ ob (τ v)) (e : put (xs ++ [v]) = ρ1) : Sn (sAppP wp wo) ρ (oa ++ (ob ++ [xs.length < sizeLine])) ρ1 := fun E o q => by
  obtain ⟨q1, q2⟩ := all_app.mp o
  obtain ⟨q2, q3, _⟩ := all_app.mp q2
  rw [sAppP_eq]
  refine h _ q1 ?_
  rw [(f q1).at']
  refine hv _ q2 ⟨by rw [List.length_map]; exact q3, ?_⟩
  have := (f q1).up (xs ++ [v])
  rw [show T.lst true (xs.map τ ++ [τ v]) = tL true τ (xs ++ [v]) from by unfold tL; rw [List.map_append]; rfl, this, e]; exact q
theorem sn_appF {e : α → D} {xs : List α} {v : α} {put : List α → Rho} (h : Epl wp ρ oa i π) (f : All oa → Foc ρ i π (tF true e) xs put) (hv : Ep wo ρ ob (.fr (e v))) (e1 : put (xs ++ [v]) = ρ1) : Sn (sAppP wp wo) ρ (oa ++ (ob ++ [xs.length < sizeLine])) ρ1 := fun E o q => by
  obtain ⟨q1, q2⟩ := all_app.mp o
  obtain ⟨q2, q3, _⟩ := all_app.mp q2
  rw [sAppP_eq]
  refine h _ q1 ?_
  rw [(f q1).at']
  refine hv _ q2 ⟨by rw [List.length_map, List.length_map]; exact q3, ?_⟩
  have := (f q1).up (xs ++ [v])
  rw [tF_snoc, this, e1]; exact q
theorem sn_putS {τ : α → T} {kvs : List (Tx × α)} {v : α} {k : Tx} {put : List (Tx × α) → Rho} (hv : Ep wo ρ oa (τ v)) (h : Epl wp ρ ob i π) (f : All ob → Foc ρ i π (tDS true τ) kvs put) (hk : Ep wk ρ oc (.fr (.str k))) (e : put (putT k v kvs) = ρ1) : Sn (sPutP wo wp wk) ρ (oa ++ (ob ++ (oc ++ [kvs.length < sizeLine]))) ρ1 := fun E o q => by
  obtain ⟨q1, q2⟩ := all_app.mp o
  obtain ⟨q2, q3⟩ := all_app.mp q2
  obtain ⟨q3, q4, _⟩ := all_app.mp q3
  refine hv _ q1 (h _ q2 (hk _ q3 ?_))
  rw [(f q2).at']
  refine ⟨rfl, ?_⟩
  show optP (putAt (.dk true (ktS τ kvs)) (.fr (.str k)) (τ v)) _
  rw [putAt_dkS, putT_ktS]
  refine ⟨by show (ktS τ kvs).length < sizeLine; unfold ktS; rw [List.length_map]; exact q4, ?_⟩
  have := (f q2).up (putT k v kvs)
  unfold tDS at this
  rw [this, e]; exact q
theorem sn_putI {τ : α → T} {kvs : List (Int × α)} {v : α} {k : Int} {put : List (Int × α) → Rho} (hv : Ep wo ρ oa (τ v)) (h : Epl wp ρ ob i π) (f : All ob → Foc ρ i π (tDI true τ) kvs put) (hk : Ep wk ρ oc (.fr (.int k))) (e : put (putT k v kvs) = ρ1) : Sn (sPutP wo wp wk) ρ (oa ++ (ob ++ (oc ++ [kvs.length < sizeLine]))) ρ1 := fun E o q => by
  obtain ⟨q1, q2⟩ := all_app.mp o
  obtain ⟨q2, q3⟩ := all_app.mp q2
  obtain ⟨q3, q4, _⟩ := all_app.mp q3
  refine hv _ q1 (h _ q2 (hk _ q3 ?_))
  rw [(f q2).at']
  refine ⟨rfl, ?_⟩
  show optP (putAt (.dk true (ktI τ kvs)) (.fr (.int k)) (τ v)) _
  rw [putAt_dkI, putT_ktI]
  refine ⟨by show (ktI τ kvs).length < sizeLine; unfold ktI; rw [List.length_map]; exact q4, ?_⟩
  have := (f q2).up (putT k v kvs)
  unfold tDI at this
  rw [this, e]; exact q
def setI (xs : List α) (k : Int) (v : α) : List α := xs.set ((ixN xs.length k).getD 0) v
theorem sn_putL {τ : α → T} {xs : List α} {v : α} {k : Int} {put : List α → Rho} (hv : Ep wo ρ oa (τ v)) (h : Epl wp ρ ob i π) (f : All ob → Foc ρ i π (tL true τ) xs put) (hk : Ep wk ρ oc (.fr (.int k))) (e : put (setI xs k v) = ρ1) : Sn (sPutP wo wp wk) ρ (oa ++ (ob ++ (oc ++ [(ixN xs.length k).isSome = true]))) ρ1 := fun E o q => by
  obtain ⟨q1, q2⟩ := all_app.mp o
  obtain ⟨q2, q3⟩ := all_app.mp q2
  obtain ⟨q3, q4, _⟩ := all_app.mp q3
  refine hv _ q1 (h _ q2 (hk _ q3 ?_))
  rw [(f q2).at']
  refine ⟨rfl, ?_⟩
  show optP (putAt (.lst true (xs.map τ)) (.fr (.int k)) (τ v)) _
  rw [putAt_lst, List.length_map]
  have := (f q2).up (setI xs k v)
  unfold setI at this e
  cases hx : ixN xs.length k with
  | none => rw [hx] at q4; cases q4
  | some n =>
    rw [hx] at this e
    rw [show (some n).getD 0 = n from rfl] at this e
    refine ⟨trivial, ?_⟩
    show E.nx (chgAt ρ i π (T.lst true ((xs.map τ).set n (τ v))))
    rw [← List.map_set, show T.lst true ((xs.set n v).map τ) = tL true τ (xs.set n v) from rfl, this, e]; exact q
theorem sn_putF {e : α → D} {xs : List α} {v : α} {k : Int} {put : List α → Rho} (hv : Ep wo ρ oa (.fr (e v))) (h : Epl wp ρ ob i π) (f : All ob → Foc ρ i π (tF true e) xs put) (hk : Ep wk ρ oc (.fr (.int k))) (e1 : put (setI xs k v) = ρ1) : Sn (sPutP wo wp wk) ρ (oa ++ (ob ++ (oc ++ [(ixN xs.length k).isSome = true]))) ρ1 := fun E o q => by
  obtain ⟨q1, q2⟩ := all_app.mp o
  obtain ⟨q2, q3⟩ := all_app.mp q2
  obtain ⟨q3, q4, _⟩ := all_app.mp q3
  refine hv _ q1 (h _ q2 (hk _ q3 ?_))
  rw [(f q2).at']
  refine ⟨rfl, ?_⟩
  show optP (putAt (.lst true ((xs.map e).map .fr)) (.fr (.int k)) (.fr (e v))) _
  rw [putAt_lst, List.length_map, List.length_map]
  have := (f q2).up (setI xs k v)
  unfold setI at this e1
  cases hx : ixN xs.length k with
  | none => rw [hx] at q4; cases q4
  | some n =>
    rw [hx] at this e1
    rw [show (some n).getD 0 = n from rfl] at this e1
    refine ⟨trivial, ?_⟩
    show E.nx (chgAt ρ i π (T.lst true (((xs.map e).map .fr).set n (.fr (e v)))))
    rw [← List.map_set, ← List.map_set, show T.lst true (((xs.set n v).map e).map .fr) = tF true e (xs.set n v) from rfl, this, e1]; exact q
/-! ### new things -/
theorem ep_mD {d : D} (h : Ep w ρ os (.fr d)) : Ep (mD w) ρ os (.fr d) := fun P o q => h _ o q
theorem ep_mN {wn : TWN} {e : α → D} {xs : List α} (h : En wn ρ os (xs.map e)) : Ep (mN wn) ρ os (tF true e xs) := fun P o q => h _ o q
theorem ep_mLst (h : Eps ws ρ os ts) (hl : decide (ts.length ≤ 1000) = true) : Ep (mLst ws) ρ os (.lst true ts) := fun P o q => h _ o ⟨of_decide_eq_true hl, q⟩
theorem ep_mLstE {t : T} (h : Eps ws ρ os ts) (e : T.lst true ts = t) (hl : decide (ts.length ≤ 1000) = true) : Ep (mLst ws) ρ os t := fun P o q => h _ o ⟨of_decide_eq_true hl, by rw [e]; exact q⟩
theorem ep_mTup (h : Eps ws ρ os ts) (hl : decide (ts.length ≤ 1000) = true) : Ep (mTup ws) ρ os (.tup ts) := fun P o q => h _ o ⟨of_decide_eq_true hl, q⟩
theorem ep_mDk0 {τ : α → T} : Ep mDk0 ρ [] (tDS true τ []) := fun P o q => q
theorem ep_mDk0I {τ : α → T} : Ep mDk0 ρ [] (tDI true τ []) := fun P o q => q
theorem ep_mDt0 {τ : α → T} : Ep mDt0 ρ [] (tDP true τ []) := fun P o q => q
/-- a comprehension of new things -/
theorem ep_mLc {τ : α → T} {xs : List α} {oC : List Prop} {ρb : α → Rho} {oe : α → List Prop} {f : α → T} (hi : Ei wi ρ oi fl (xs.map τ)) (hC : All oC → C (xs.map τ)) (hp : ∀ x, bindP p (τ x) (wipeR ρ vs) = some (ρb x)) (he : ∀ x, Ep wo (ρb x) (oe x) (f x)) : Ep (mLcG C vs p wi (fun _ P => P true) wo) ρ (oi ++ (oC ++ [∀ x ∈ xs, All (oe x)])) (.lst true (xs.map f)) := fun P o q => by
  obtain ⟨o1, o2⟩ := all_app.mp o
  obtain ⟨o2, o3, _⟩ := all_app.mp o2
  refine hi _ o1 ⟨hC o2, fun i acc => acc = (xs.take i).map f, by show [] = _; rw [List.take_zero]; rfl, fun i t acc hx hI => ?_, fun acc hI => ?_⟩
  · rw [List.getElem?_map] at hx
    cases hg : xs[i]? with
    | none => rw [hg] at hx; cases hx
    | some x =>
      rw [hg] at hx
      cases hx
      rw [hp]
      refine he x _ (o3 x (List.mem_of_getElem? hg)) ?_
      show acc ++ [f x] = _
      rw [hI, show xs.take (i + 1) = xs.take i ++ [x] from by rw [List.take_add_one, hg]; rfl, List.map_append]; rfl
  · rw [List.length_map, List.take_length] at hI
    rw [hI]; exact q
/-- dict(..) -/
theorem ep_mDict {kvs : List (KY × T)} (h : Ep w ρ os t) (k : (lstT t).bind pairsK = some kvs) : Ep (mDict w) ρ (os ++ [(kvs.map (·.1)).Nodup]) (.dk true kvs) := fun P o q => by
  obtain ⟨q1, q2, _⟩ := all_app.mp o
  refine h _ q1 ?_
  rw [k]; exact ⟨q2, q⟩
theorem pairsK_map {f : α → T} {k : α → Tx} {v : α → β} {τ : β → T} (h : ∀ x, pairK (f x) = some (.inr (k x), τ (v x))) : ∀ xs : List α, pairsK (xs.map f) = some (ktS τ (xs.map fun x => (k x, v x)))
  | [] => rfl
  | x :: xs => by
    rw [List.map_cons, pairsK, h, pairsK_map h xs]; rfl
theorem nodup_inr : ∀ {xs : List Tx}, xs.Nodup → (xs.map (Sum.inr : Tx → KY)).Nodup
  | [], _ => List.nodup_nil
  | x :: xs, h => by
    rw [List.map_cons, List.nodup_cons]
    rw [List.nodup_cons] at h
    refine ⟨fun z => ?_, nodup_inr h.2⟩
    obtain ⟨y, hy, e⟩ := List.mem_map.mp z
    cases e; exact h.1 hy
theorem keys_ktS {τ : β → T} (kvs : List (Tx × β)) : (ktS τ kvs).map (·.1) = (kvs.map (·.1)).map (Sum.inr : Tx → KY) := by
  unfold ktS; rw [List.map_map, List.map_map]; rfl
theorem ep_dictS {xs : List α} {f : α → T} (k : α → Tx) (v : α → β) {τ : β → T} (h : Ep w ρ os (.lst true (xs.map f))) (hp : ∀ x, pairK (f x) = some (.inr (k x), τ (v x))) : Ep (mDict w) ρ (os ++ [(xs.map k).Nodup]) (tDS true τ (xs.map fun x => (k x, v x))) := fun P o q => by
  obtain ⟨q1, q2, _⟩ := all_app.mp o
  refine ep_mDict h (kvs := ktS τ (xs.map fun x => (k x, v x))) (pairsK_map hp xs) P (all_app.mpr ⟨q1, ?_, trivial⟩) q
  rw [keys_ktS]
  have : ((xs.map fun x => (k x, v x)).map (·.1)) = xs.map k := by rw [List.map_map]; rfl
  rw [this]
  exact nodup_inr q2
/-- dict([(k, v) ..]) that stands still -/
theorem frz_tDS {e : α → D} (kvs : List (Tx × α)) : T.frz (tDS true (fr e) kvs) = some (eDS e kvs) := by
  have : ktS (fr e) kvs = frK (kvS e kvs) := by unfold ktS frK kvS; rw [List.map_map]; rfl
  unfold tDS eDS
  rw [this, frz_dk]
theorem ep_frz {d : D} (h : Ep w ρ os t) (k : T.frz t = some d) : Ep (wFrz w) ρ os (.fr d) := fun P o q => h _ o (by rw [k]; exact q)
theorem ep_frzDict {e : α → D} {kvs : List (Tx × α)} (h : Ep w ρ os (.fr (eL (eT2 D.str e) kvs))) : Ep (wFrz (mDict (mD w))) ρ (os ++ [(kvs.map (·.1)).Nodup]) (.fr (eDS e kvs)) := fun P o q => by
  obtain ⟨q1, q2, _⟩ := all_app.mp o
  have hk : pairsK ((kvs.map (eT2 D.str e)).map .fr) = some (ktS (fr e) kvs) := by
    have := pairsK_map (f := fun x => T.fr (eT2 D.str e x)) (k := fun x : Tx × α => x.1) (v := fun x => x.2) (τ := fr e) (fun x => rfl) kvs
    rw [List.map_map]
    rw [show (kvs.map fun x => (x.1, x.2)) = kvs from by simp] at this
    exact this
  refine ep_frz (ep_mDict (ep_mD h) (kvs := ktS (fr e) kvs) hk) (d := eDS e kvs) (frz_tDS kvs) P (all_app.mpr ⟨q1, ?_, trivial⟩) q
  rw [keys_ktS]
  exact nodup_inr q2
/-- displays of dicts -/
def Eds (wp : Rho → (List (KY × T) → Prop) → Prop) (ρ : Rho) (os : List Prop) (kvs : List (KY × T)) : Prop := ∀ P : List (KY × T) → Prop, All os → P kvs → wp ρ P
theorem eds_nil : Eds pNil ρ [] [] := fun P _ q => q
theorem eds_cons {wr : Rho → (List (KY × T) → Prop) → Prop} {kvs : List (KY × T)} {k : Tx} (hk : Ep wk ρ [] (.fr (.str k))) (hv : Ep wo ρ oa t) (hr : Eds wr ρ ob kvs) : Eds (pCons wk wo wr) ρ (oa ++ ob) ((.inr k, t) :: kvs) := fun P o q => by
  obtain ⟨q1, q2⟩ := all_app.mp o
  exact hk _ trivial (hv _ q1 (hr _ q2 q))
theorem ep_disp {wr : Rho → (List (KY × T) → Prop) → Prop} {kvs : List (KY × T)} {t : T} (h : Eds wr ρ os kvs) (hl : decide (kvs.length ≤ 15) = true) (hn : (kvs.map (·.1)).Nodup) (e : T.dk true kvs = t) : Ep (mDisp wr) ρ os t := fun P o q => h _ o ⟨of_decide_eq_true hl, hn, by rw [e]; exact q⟩
/-! ### statements over new things -/
theorem sn_mk {n : Nat} (h : Ep w ρ os t) (hl : decide (i < ρ.length) = true) (hn : decide (n ≤ i) = true) (e : ρ.set i (some t) = ρ1) : Sn (sSetM n i (mMk w)) ρ os ρ1 := fun E o q => h _ o ⟨of_decide_eq_true hl, .inl (of_decide_eq_true hn), by rw [e]; exact q⟩
theorem sn_par3 {n i j l : Nat} {a b c : T} (h : Eps ws ρ os [a, b, c]) (hl : decide (i < ρ.length ∧ j < ρ.length ∧ l < ρ.length) = true) (hn : decide (n ≤ i ∧ n ≤ j ∧ n ≤ l) = true) (e : ((ρ.set i (some a)).set j (some b)).set l (some c) = ρ1) : Sn (sPar3 n i j l ws) ρ os ρ1 := fun E o q => h _ o ⟨of_decide_eq_true hl, of_decide_eq_true hn, by rw [e]; exact q⟩
theorem sn_par2 {n i j : Nat} {a b : T} (h : Eps ws ρ os [a, b]) (hl : decide (i < ρ.length ∧ j < ρ.length) = true) (hn : decide (n ≤ i ∧ n ≤ j) = true) (e : ((ρ.set i (some a)).set j (some b)) = ρ1) : Sn (sPar2 n i j ws) ρ os ρ1 := fun E o q => h _ o ⟨of_decide_eq_true hl, of_decide_eq_true hn, by rw [e]; exact q⟩
theorem rg_freeze {good : M → ET → Prop} {m : M} {e : α → D} {xs : List α} (hl : look ρ i = some (tF true e xs)) (e1 : ρ.set i (some (.fr (eL e xs))) = ρ1) (h : Rg W ρ1 os good m) : Rg (sFreeze i W) ρ os good m := fun E o g => by
  rw [sFreeze_eq, hl]
  show optP (frs ((xs.map e).map .fr)) _
  rw [frs_map']
  show W E (ρ.set i (some (.fr (eL e xs))))
  rw [e1]; exact h E o g
theorem rw_freeze {good : M → ET → Prop} {μ : WPt M} {e : α → D} {xs : List α} (hl : look ρ i = some (tF true e xs)) (e1 : ρ.set i (some (.fr (eL e xs))) = ρ1) (h : Rw W ρ1 good μ) : Rw (sFreeze i W) ρ good μ := fun E Q iq q => by
  rw [sFreeze_eq, hl]
  show optP (frs ((xs.map e).map .fr)) _
  rw [frs_map']
  show W E (ρ.set i (some (.fr (eL e xs))))
  rw [e1]; exact h E Q iq q
theorem fz_eq {E : ET} {r : Rho} : sFreeze i (sSeq W2 W) E r = sFreeze i W2 { E with nx := W E } r := by rw [sFreeze_eq, sFreeze_eq]; rfl
theorem rg_fz {good : M → ET → Prop} {m : M} (h : Rg (sFreeze i (sSeq W2 W)) ρ os good m) : Rg (sSeq (sFreeze i W2) W) ρ os good m := fun E o g => by
  have := h E o g
  rw [fz_eq] at this; exact this
theorem rw_fz {good : M → ET → Prop} {μ : WPt M} (h : Rw (sFreeze i (sSeq W2 W)) ρ good μ) : Rw (sSeq (sFreeze i W2) W) ρ good μ := fun E Q iq q => by
  have := h E Q iq q
  rw [fz_eq] at this; exact this
end
end TL
set_option Elab.async false
set_option linter.all false
set_option maxRecDepth 100000
set_option maxHeartbeats 1000000
/-! TL37: defs that change or hand out own things: typed calls, typed ends. -/
namespace TL
open PySem PySem.Spec PyProof.Rows L2
section
variable {M N S α β γ R0 : Type}
variable {W W1 W2 : TSW} {ρ ρ1 ρ2 : Rho} {os oa ob oc oi oo oC : List Prop} {w wa wb we wo wk : TW} {ws : TWs} {x y t v : T} {ts : List T} {ats rr : Rho} {am : TWA} {ns : List (Option Nat)} {i n k : Nat} {Sp : SpS}
def Eam (wa : TWA) (ρ : Rho) (os : List Prop) (ats : Rho) : Prop := ∀ P : Rho → Prop, All os → P ats → wa ρ P
theorem eam_nil : Eam aNil ρ [] [] := fun P _ q => q
theorem eam_own (h : Eam am ρ os ats) : Eam (aOwn am) ρ os (none :: ats) := fun P o q => h _ o q
theorem eam_val (h : Ep w ρ oa t) (k : Eam am ρ ob ats) : Eam (aVal w am) ρ (oa ++ ob) (some t :: ats) := fun P o q => by
  obtain ⟨q1, q2⟩ := all_app.mp o
  exact h _ q1 (k _ q2 q)
def Eaw (wa : TWA) (ρ : Rho) (ats : α → Rho) (μ : WPt α) : Prop := ∀ (P : Rho → Prop) (Q : α → Prop), (∀ a, Q a → P (ats a)) → μ Q → wa ρ P
theorem eaw_p (h : Eam am ρ os ats) : Eaw am ρ (fun _ : Unit => ats) (fun P => All os ∧ P ()) := fun P Q i q => h _ q.1 (i _ q.2)
theorem eaw_p0 (h : Eam am ρ [] ats) : Eaw am ρ (fun _ : Unit => ats) (fun P => P ()) := fun P Q i q => h _ trivial (i _ q)
theorem eaw_own {f : α → Rho} {μ : WPt α} (h : Eaw am ρ f μ) : Eaw (aOwn am) ρ (fun a => none :: f a) μ := fun P Q i q => h _ Q (fun a qa => i a qa) q
theorem eaw_valP {f : α → Rho} {μ : WPt α} (h : Ep w ρ os t) (k : Eaw am ρ f μ) : Eaw (aVal w am) ρ (fun a => some t :: f a) (fun P => All os ∧ μ P) := fun P Q i q => h _ q.1 (k _ Q (fun a qa => i a qa) q.2)
theorem eaw_valP0 {f : α → Rho} {μ : WPt α} (h : Ep w ρ [] t) (k : Eaw am ρ f μ) : Eaw (aVal w am) ρ (fun a => some t :: f a) μ := fun P Q i q => h _ trivial (k _ Q (fun a qa => i a qa) q)
theorem eaw_val {τ : α → T} {f : α → β → Rho} {μ : WPt α} {ν : α → WPt β} (h : Ew w ρ τ μ) (k : ∀ a, Eaw am ρ (f a) (ν a)) : Eaw (aVal w am) ρ (fun q : α × β => some (τ q.1) :: f q.1 q.2) (fun P => μ fun a => ν a fun b => P (a, b)) := fun P Q i q =>
  h _ _ (fun a qa => k a _ _ (fun b qb => i (a, b) qb) qa) q
/-- name = f(own things, data) -/
theorem sn_callM {j : Nat} (hok : ownOk ns ρ) (ha : Eam am (clear ns ρ) oa ats) (hm : mergeA ns ρ ats = ts) (hk : ts.length = k) (hS : ∀ P R, All oo → P v rr → Sp ts P R) (hb : back ns rr (clear ns ρ) = ρ2) (hl : decide (i < ρ2.length) = true) (hn : decide (n ≤ i) = true ∨ v.mine = false) (he : ρ2.set i (some v) = ρ1) : Sn (sSetM n i (mCall ns k Sp am)) ρ (oa ++ oo) ρ1 := fun E o q => by
  obtain ⟨q1, q2⟩ := all_app.mp o
  refine ⟨hok, ha _ q1 ⟨by rw [hm]; exact hk, ?_⟩⟩
  rw [hm]
  refine hS _ _ q2 ?_
  show i < (back ns rr (clear ns ρ)).length ∧ _
  rw [hb]
  exact ⟨of_decide_eq_true hl, hn.imp of_decide_eq_true id, by rw [he]; exact q⟩
theorem sw_callM {f : α → Rho} {μ : WPt α} {ν : α → WPt β} {tv : α → List T} {rv : α → β → Rho} {vv : α → β → T} {ρ1 : α × β → Rho} {ρ2 : α → β → Rho} (hok : ownOk ns ρ) (ha : Eaw am (clear ns ρ) f μ) (hm : ∀ a, mergeA ns ρ (f a) = tv a) (hk : ∀ a, (tv a).length = k) (hS : ∀ a (P : T → Rho → Prop) (R : Addr → List (Str × D) → Prop) (Q : β → Prop), (∀ b, Q b → P (vv a b) (rv a b)) → ν a Q → Sp (tv a) P R) (hb : ∀ a b, back ns (rv a b) (clear ns ρ) = ρ2 a b) (hl : ∀ a b, decide (i < (ρ2 a b).length) = true) (hn : decide (n ≤ i) = true ∨ ∀ a b, (vv a b).mine = false) (he : ∀ a b, (ρ2 a b).set i (some (vv a b)) = ρ1 (a, b)) : Sw (sSetM n i (mCall ns k Sp am)) ρ ρ1 (fun P => μ fun a => ν a fun b => P (a, b)) := fun E Q iq q => by
  refine ⟨hok, ha _ _ (fun a qa => ⟨by rw [hm]; exact hk a, ?_⟩) q⟩
  rw [hm]
  refine hS a _ _ _ (fun b qb => ?_) qa
  show i < (back ns (rv a b) (clear ns ρ)).length ∧ _
  rw [hb]
  exact ⟨of_decide_eq_true (hl a b), hn.imp of_decide_eq_true (fun z => z a b), by rw [he]; exact iq _ qb⟩
/-! ### ends -/
/-- exits of a def that may change its arguments: ps tells the slots of the arguments -/
def rtM (k : Nat) (ps : R0 → Rho) (τ : R0 → T) : R0 → ET → Prop := fun r E => ∀ ρ, ρ.take k = ps r → E.rt (τ r) ρ
theorem give_take : ∀ (ts : List T) (ρ : Rho), give ts ρ = give ts (ρ.take ts.length)
  | [], _ => rfl
  | t :: ts, [] => rfl
  | t :: ts, o :: ρ => by
    rw [List.length_cons, List.take_succ_cons]
    unfold give
    rw [give_take ts ρ]
theorem rg_M {ps gv : R0 → Rho} {τ : R0 → T} {r : R0} {Q : T → Rho → Prop} {R : Addr → List (Str × D) → Prop} (h : Rg W ρ os (rtM ts.length ps τ) r) (o : All os) (q : Q (τ r) (gv r)) (hw : ∀ r, (τ r).own = true) (hg : ∀ r, give ts (ps r) = gv r) (ho : ∀ r, ownO (gv r) = true) : W (endM ts Q R) ρ := h _ o fun ρ' e => by
  have : give ts ρ' = gv r := by rw [give_take, e, hg]
  show (τ r).own = true ∧ ownO (give ts ρ') = true ∧ Q (τ r) (give ts ρ')
  rw [this]; exact ⟨hw r, ho r, q⟩
theorem rw_M {ps gv : R0 → Rho} {τ : R0 → T} {μ : WPt R0} {q : R0 → Prop} {Q : T → Rho → Prop} {R : Addr → List (Str × D) → Prop} (h : Rw W ρ (rtM ts.length ps τ) μ) (iq : ∀ r, q r → Q (τ r) (gv r)) (o : μ q) (hw : ∀ r, (τ r).own = true) (hg : ∀ r, give ts (ps r) = gv r) (ho : ∀ r, ownO (gv r) = true) : W (endM ts Q R) ρ := h _ q (fun r qr ρ' e => by
  have : give ts ρ' = gv r := by rw [give_take, e, hg]
  show (τ r).own = true ∧ ownO (give ts ρ') = true ∧ Q (τ r) (give ts ρ')
  rw [this]; exact ⟨hw r, ho r, iq r qr⟩) o
theorem own_tF (e : α → D) (xs : List α) : (tF true e xs).own = true := own_lst _
theorem owns_map {τ : α → T} (h : ∀ x, (τ x).own = true) : ∀ xs : List α, T.owns (xs.map τ) = true
  | [] => rfl
  | x :: xs => by show ((τ x).own && T.owns (xs.map τ)) = true; rw [h, owns_map h xs]; rfl
theorem own_tL {τ : α → T} (h : ∀ x, (τ x).own = true) (xs : List α) : (tL true τ xs).own = true := by
  show (true && T.owns (xs.map τ)) = true
  rw [owns_map h]; rfl
theorem own_tDS {τ : α → T} (h : ∀ x, (τ x).own = true) (kvs : List (Tx × α)) : (tDS true τ kvs).own = true := by
  show (true && T.ownk (ktS τ kvs)) = true
  have : ∀ kvs : List (Tx × α), T.ownk (ktS τ kvs) = true := by
    intro kvs
    induction kvs with
    | nil => rfl
    | cons p kvs ih => show ((τ p.2).own && T.ownk (ktS τ kvs)) = true; rw [h, ih]; rfl
  rw [this]; rfl
theorem own_tDI {τ : α → T} (h : ∀ x, (τ x).own = true) (kvs : List (Int × α)) : (tDI true τ kvs).own = true := by
  show (true && T.ownk (ktI τ kvs)) = true
  have : ∀ kvs : List (Int × α), T.ownk (ktI τ kvs) = true := by
    intro kvs
    induction kvs with
    | nil => rfl
    | cons p kvs ih => show ((τ p.2).own && T.ownk (ktI τ kvs)) = true; rw [h, ih]; rfl
  rw [this]; rfl
theorem own_fr' (e : α → D) (x : α) : (fr e x).own = true := rfl
theorem o_addT {a : D} {as bs : List D} {t : T} (h : ∀ P : T → Prop, P t → (a :: as).length + bs.length ≤ sizeLine ∧ P (.fr (.tup ((a :: as) ++ bs)))) : Op2 oAdd (.fr (.tup (a :: as))) (.fr (.tup bs)) [] t := fun P _ p => h P p
theorem o_dkGet {kvs : List (KY × D)} {k : Tx} {d : D} (h : getK kvs (.inr k) = some d) : Op2 oIx (.fr (.dk kvs)) (.fr (.str k)) [] (.fr d) := fun P _ p => by rw [oIx_dkS, h]; exact p
/-! the same rules with the count of pins as a number -/
section
variable {X : Cx} {np : Np} {c nn : Nat} {st : Stmt} {wm : TWM} {j l : Nat}
theorem ws_nM (h : np.n = nn) (k : WS X np c st (sSetM np.n i wm)) : WS X np c st (sSetM nn i wm) := h ▸ k
theorem ws_n3 (h : np.n = nn) (k : WS X np c st (sPar3 np.n i j l ws)) : WS X np c st (sPar3 nn i j l ws) := h ▸ k
theorem ws_n2 (h : np.n = nn) (k : WS X np c st (sPar2 np.n i j ws)) : WS X np c st (sPar2 nn i j ws) := h ▸ k
end
theorem lends_map {τ : α → T} : ∀ xs : List α, T.lends (xs.map τ) = xs.map fun x => (τ x).lend
  | [] => rfl
  | x :: xs => by rw [List.map_cons, lends_cons', lends_map xs]; rfl
theorem lend_tL (m : Bool) (τ : α → T) (xs : List α) : (tL m τ xs).lend = tL false (fun x => (τ x).lend) xs := by
  show T.lst false (T.lends (xs.map τ)) = _
  rw [lends_map]; rfl
theorem lendk_ktS (τ : α → T) : ∀ kvs : List (Tx × α), T.lendk (ktS τ kvs) = ktS (fun x => (τ x).lend) kvs
  | [] => rfl
  | p :: kvs => by show (_, _) :: T.lendk (ktS τ kvs) = _; rw [lendk_ktS τ kvs]; rfl
theorem lendk_ktI (τ : α → T) : ∀ kvs : List (Int × α), T.lendk (ktI τ kvs) = ktI (fun x => (τ x).lend) kvs
  | [] => rfl
  | p :: kvs => by show (_, _) :: T.lendk (ktI τ kvs) = _; rw [lendk_ktI τ kvs]; rfl
theorem lendt_ktP (τ : α → T) : ∀ kvs : List ((Tx × Tx) × α), T.lendt (ktP τ kvs) = ktP (fun x => (τ x).lend) kvs
  | [] => rfl
  | p :: kvs => by show (_, _) :: T.lendt (ktP τ kvs) = _; rw [lendt_ktP τ kvs]; rfl
theorem lend_tDS (m : Bool) (τ : α → T) (kvs : List (Tx × α)) : (tDS m τ kvs).lend = tDS false (fun x => (τ x).lend) kvs := by
  show T.dk false (T.lendk (ktS τ kvs)) = _
  rw [lendk_ktS]; rfl
theorem lend_tDI (m : Bool) (τ : α → T) (kvs : List (Int × α)) : (tDI m τ kvs).lend = tDI false (fun x => (τ x).lend) kvs := by
  show T.dk false (T.lendk (ktI τ kvs)) = _
  rw [lendk_ktI]; rfl
theorem lend_tDP (m : Bool) (τ : α → T) (kvs : List ((Tx × Tx) × α)) : (tDP m τ kvs).lend = tDP false (fun x => (τ x).lend) kvs := by
  show T.dt false (T.lendt (ktP τ kvs)) = _
  rw [lendt_ktP]; rfl
theorem rg_never {good : M → ET → Prop} {m : M} : Rg (sSeq (fun _ _ => False) W2) ρ [False] good m := fun E o g => o.1.elim
theorem rg_never1 {good : M → ET → Prop} {m : M} : Rg (fun _ _ => False) ρ [False] good m := fun E o g => o.1.elim
/-- isinstance of a number or None -/
theorem o_isaOI {bs : List Ty7} {a : Option Int} {b : Bool} (h1 : (bs.any fun c => Ty7.isa .non c) = false) (h2 : (bs.any fun c => Ty7.isa .int c) = b) : Op1 (oIsa bs) (.fr (eO D.int a)) [] (.fr (.bl (a.isSome && b))) := fun P _ q => by
  cases a with
  | none => show P (.fr (.bl (bs.any fun c => Ty7.isa .non c))); rw [h1]; exact q
  | some i => show P (.fr (.bl (bs.any fun c => Ty7.isa .int c))); rw [h2]; exact q
theorem cpow_lit {i j : Int} (h : decide (0 ≤ j ∧ j ≤ 1000000 ∧ i.natAbs < 2 ^ 64) = true) : CPow i j := by unfold CPow; exact of_decide_eq_true h
theorem cdiv_lit {i j : Int} (h : decide (0 < j ∧ j < 1073741824) = true) : CDiv i j := by unfold CDiv; exact of_decide_eq_true h
/-- a part of a tuple -/
theorem s_TE {ds : List D} {lo hi : Option Int} {t : T} (n : Nat) (hl : ds.length = n) (hn : decide (¬ (HT.sIx n 0 lo = 0 ∧ HT.sIx n n hi = n)) = true) (e : T.fr (.tup (cut ds lo hi)) = t) : Sl3 (.fr (.tup ds)) lo hi [] t := fun P _ p => by
  subst hl
  exact ⟨of_decide_eq_true hn, by rw [e]; exact p⟩
theorem ep_dispE {wr : Rho → (List (KY × T) → Prop) → Prop} {kvs : List (KY × T)} {t : T} (ks : List KY) (h : Eds wr ρ os kvs) (hl : decide (kvs.length ≤ 15) = true) (hk : kvs.map (·.1) = ks) (hn : decide ks.Nodup = true) (e : T.dk true kvs = t) : Ep (mDisp wr) ρ os t := fun P o q => h _ o ⟨of_decide_eq_true hl, by rw [hk]; exact of_decide_eq_true hn, by rw [e]; exact q⟩
/-- behind a call: only what it hands on counts -/
theorem rw_seqP {good : M → ET → Prop} {ρ1 : α × β → Rho} {μ1 : WPt (α × β)} {μ : β → WPt M} {ρb : β → Rho} (h : Sw W1 ρ ρ1 μ1) (k : ∀ b, Rw W2 (ρb b) good (μ b)) (e : ∀ a b, ρ1 (a, b) = ρb b := by intro _ _; rfl) : Rw (sSeq W1 W2) ρ good (fun P => μ1 fun r => μ r.2 P) := fun E Q i q => h _ _ (fun a qa => by
  have := e a.1 a.2
  show W2 E (ρ1 a)
  rw [show ρ1 a = ρ1 (a.1, a.2) from rfl, this]
  exact k a.2 _ _ i qa) q
/-- return of an own thing in a slot -/
theorem rg_retM {good : M → ET → Prop} {m : M} {t : T} (hl : look ρ i = some t) (k : ∀ E, good m E → E.rt t (ρ.set i none)) : Rg (sSeq (sRetM (mTake i)) W2) ρ [] good m := fun E o g => by
  have e : sSeq (sRetM (mTake i)) W2 E ρ = (match look ρ i with
    | some t => E.rt t (ρ.set i none)
    | none => False) := rfl
  rw [e, hl]
  exact k E g
theorem rg_retMD {good : M → ET → Prop} {m : M} {t : T} (h : Ep w ρ os t) (k : ∀ E, good m E → E.rt t ρ) : Rg (sSeq (sRetM (mMk w)) W2) ρ os good m := fun E o g => h _ o (k E g)
theorem rw_retMD {good : M → ET → Prop} {τ : α → T} {μ : WPt α} {g : α → M} (h : Ew w ρ τ μ) (k : ∀ a E, good (g a) E → E.rt (τ a) ρ) : Rw (sSeq (sRetM (mMk w)) W2) ρ good (fun P => μ fun a => P (g a)) := fun E Q i q => h _ _ (fun a qa => k a E (i _ qa)) q
end
end TL
set_option Elab.async false
set_option linter.all false
set_option maxRecDepth 100000
set_option maxHeartbeats 1000000
/-! TL38: the law itself: its promise at the script that is handed in. -/
namespace TL
open PySem PySem.Spec PyProof.Rows L2
theorem law_ok {P : Program} {w : World} {K : PySem.W.Frag} {mg : Str → Option Value} {base : Heap} {q : Str} {st : Stmt} {N ps : List Str} {k n c c' : Nat} {S : List T → (D → Prop) → Prop} {W : TSW} {f : Addr} {fd : FuncData}
    (F : FunD K q q (defArgs st) (defBody st) (defScope st) [] [] f fd) (Sc : FnScope N ps (defScope st)) (hn : n = ps.length) (hc : c' ≤ c)
    (hbody : ∀ (f : Addr) (cdv : Value) (A : Around) (outer : List Env) (s : Shared) (H : Hp) (E : XK), Room k (A.deeper (envOfC q (defScope st) s.heap.objs.size f cdv)) → WSs (cxOf CX0 P w K mg base N q (defScope st) f cdv A outer s H E).nox ⟨0, fun _ _ _ _ => False⟩ c' (defBody st) W)
    (hs : ∀ ts Q, ts.length = n → S ts Q → W { nx := fun _ => Q .non, rt := fun t _ => asD Q t } (rho N.length ts)) : FnOk P w K mg base CX0 (k + 1) f fd ps (spP K n c S) :=
  (def_ok (P := P) (w := w) (mg := mg) (base := base) (k := k) (n := n) (c := c') (S := S) F Sc hn (hbody f) hs).imp fun vs H Q E q => spP_more hc q
theorem law_entry {K : PySem.W.Frag} {H : Hp} {a : Addr} {ns : List Int} {c : Nat} {S : List T → (D → Prop) → Prop} (hS : SqL K H a (ns.map V.int)) (hc : c ≤ LIM) (h : S [.fr (.scr ns)] fun d => d = .bl true) : spP K 1 c S [.ref a] H (fun v _ => v = .bl true) fun _ _ _ => False := by
  have fin : ∀ G : Gh, Holds G H → G.n = 0 → (G.obj a = some (.scr ns) ∨ KList K a (ns.map .int)) → spP K 1 c S [.ref a] H (fun v _ => v = .bl true) fun _ _ _ => False := fun G hd hn hr =>
    ⟨G, [.fr (.scr ns)], [], fun d => d = .bl true, hd, .cons (f := []) (.fr (.scr hr)) .nil, (fun _ z => nomatch z), rfl, by omega, h, fun v d G' H' x r p => by
      have p : d = .bl true := p
      rw [p] at r; exact r.bl'⟩
  rcases hS with hS | hS
  · refine fin ⟨fun b => if b = a then some (.scr ns) else none, 0⟩ ⟨fun b o e => ?_, fun b e => ?_, fun b ms e => ?_, fun b q e => ?_⟩ rfl (.inl (if_pos rfl))
    · by_cases h : b = a
      · simp [h] at e
      · simp [h] at e
    · by_cases h : b = a
      · simp [h] at e
      · simp [h] at e
    · by_cases h : b = a
      · subst h
        simp at e
        subst e; exact hS
      · simp [h] at e
    · by_cases h : b = a
      · simp [h] at e
      · simp [h] at e
  · exact fin ⟨fun _ => none, 0⟩ ⟨(fun b o e => nomatch e), (fun b e => nomatch e), (fun b ms e => nomatch e), (fun b q e => nomatch e)⟩ rfl (.inr hS)
end TL
set_option Elab.async false
set_option linter.all false
set_option maxRecDepth 100000
set_option maxHeartbeats 0
namespace Hd
open PySem PySem.Spec PyProof.Rows L2
def top (i : Nat) : Stmt := PySem.Challenge.pw_mergeline_k67_paces_of_two_hundred_goods.main.body.getD i (.Pass ⟨0, 0, 0, 0⟩)
abbrev s_is_too_fast : Stmt := top 1
abbrev s_pace_fault : Stmt := top 2
abbrev s_BadPlant___init__ : Stmt := inClass (top 5) 0
abbrev s_greatest_load : Stmt := top 7
abbrev s_words_of : Stmt := top 11
abbrev s_is_name : Stmt := top 12
abbrev s_number_in : Stmt := top 13
abbrev s_positive_in : Stmt := top 14
abbrev s_numbers_in : Stmt := top 15
abbrev s_Plant___init__ : Stmt := inClass (top 19) 0
abbrev s_desk_of : Stmt := top 20
abbrev s_taker_of : Stmt := top 21
abbrev s_has_place : Stmt := top 22
abbrev s_first_due : Stmt := top 23
abbrev s_kind_row : Stmt := top 24
abbrev s_gate_row : Stmt := top 25
abbrev s_line_row : Stmt := top 26
abbrev s_rank_of : Stmt := top 27
abbrev s_gather_of : Stmt := top 28
abbrev s_turns_of : Stmt := top 29
abbrev s_rule_of : Stmt := top 30
abbrev s_places_told : Stmt := top 31
abbrev s_desk_told : Stmt := top 32
abbrev s_desk_row : Stmt := top 33
abbrev s_time_row : Stmt := top 34
abbrev s_open_row : Stmt := top 35
abbrev s_pace_row : Stmt := top 36
abbrev s_plant_row : Stmt := top 37
abbrev s_read_plant : Stmt := top 38
abbrev s__law_mix : Stmt := top 40
abbrev s__law_left : Stmt := top 41
abbrev s__law_pick : Stmt := top 42
abbrev s__law_spelt : Stmt := top 43
abbrev s__law_spelt_all : Stmt := top 44
abbrev s__law_same : Stmt := top 45
abbrev s__law_plant : Stmt := top 46
abbrev s__law_earliest : Stmt := top 47
abbrev s__law_next_gate : Stmt := top 48
abbrev s__law_day : Stmt := top 49
abbrev s__law_due : Stmt := top 50
abbrev s_law : Stmt := top 51
def d_is_too_fast : He.DefD := ⟨("is_too_fast", none), "is_too_fast", "is_too_fast", defArgs s_is_too_fast, defBody s_is_too_fast, defScope s_is_too_fast, [], []⟩
def d_pace_fault : He.DefD := ⟨("pace_fault", none), "pace_fault", "pace_fault", defArgs s_pace_fault, defBody s_pace_fault, defScope s_pace_fault, [], []⟩
def d_BadPlant___init__ : He.DefD := ⟨("BadPlant", some "__init__"), "__init__", "BadPlant.__init__", defArgs s_BadPlant___init__, defBody s_BadPlant___init__, defScope s_BadPlant___init__, [], []⟩
def d_greatest_load : He.DefD := ⟨("greatest_load", none), "greatest_load", "greatest_load", defArgs s_greatest_load, defBody s_greatest_load, defScope s_greatest_load, [], []⟩
def d_words_of : He.DefD := ⟨("words_of", none), "words_of", "words_of", defArgs s_words_of, defBody s_words_of, defScope s_words_of, [], []⟩
def d_is_name : He.DefD := ⟨("is_name", none), "is_name", "is_name", defArgs s_is_name, defBody s_is_name, defScope s_is_name, [], []⟩
def d_number_in : He.DefD := ⟨("number_in", none), "number_in", "number_in", defArgs s_number_in, defBody s_number_in, defScope s_number_in, [], []⟩
def d_positive_in : He.DefD := ⟨("positive_in", none), "positive_in", "positive_in", defArgs s_positive_in, defBody s_positive_in, defScope s_positive_in, [], []⟩
def d_numbers_in : He.DefD := ⟨("numbers_in", none), "numbers_in", "numbers_in", defArgs s_numbers_in, defBody s_numbers_in, defScope s_numbers_in, [], []⟩
def d_Plant___init__ : He.DefD := ⟨("Plant", some "__init__"), "__init__", "Plant.__init__", defArgs s_Plant___init__, defBody s_Plant___init__, defScope s_Plant___init__, [], []⟩
def d_desk_of : He.DefD := ⟨("desk_of", none), "desk_of", "desk_of", defArgs s_desk_of, defBody s_desk_of, defScope s_desk_of, [], []⟩
def d_taker_of : He.DefD := ⟨("taker_of", none), "taker_of", "taker_of", defArgs s_taker_of, defBody s_taker_of, defScope s_taker_of, [], []⟩
def d_has_place : He.DefD := ⟨("has_place", none), "has_place", "has_place", defArgs s_has_place, defBody s_has_place, defScope s_has_place, [], []⟩
def d_first_due : He.DefD := ⟨("first_due", none), "first_due", "first_due", defArgs s_first_due, defBody s_first_due, defScope s_first_due, [], []⟩
def d_kind_row : He.DefD := ⟨("kind_row", none), "kind_row", "kind_row", defArgs s_kind_row, defBody s_kind_row, defScope s_kind_row, [], []⟩
def d_gate_row : He.DefD := ⟨("gate_row", none), "gate_row", "gate_row", defArgs s_gate_row, defBody s_gate_row, defScope s_gate_row, [], []⟩
def d_line_row : He.DefD := ⟨("line_row", none), "line_row", "line_row", defArgs s_line_row, defBody s_line_row, defScope s_line_row, [], []⟩
def d_rank_of : He.DefD := ⟨("rank_of", none), "rank_of", "rank_of", defArgs s_rank_of, defBody s_rank_of, defScope s_rank_of, [], []⟩
def d_gather_of : He.DefD := ⟨("gather_of", none), "gather_of", "gather_of", defArgs s_gather_of, defBody s_gather_of, defScope s_gather_of, [], []⟩
def d_turns_of : He.DefD := ⟨("turns_of", none), "turns_of", "turns_of", defArgs s_turns_of, defBody s_turns_of, defScope s_turns_of, [], []⟩
def d_rule_of : He.DefD := ⟨("rule_of", none), "rule_of", "rule_of", defArgs s_rule_of, defBody s_rule_of, defScope s_rule_of, [], []⟩
def d_places_told : He.DefD := ⟨("places_told", none), "places_told", "places_told", defArgs s_places_told, defBody s_places_told, defScope s_places_told, [], []⟩
def d_desk_told : He.DefD := ⟨("desk_told", none), "desk_told", "desk_told", defArgs s_desk_told, defBody s_desk_told, defScope s_desk_told, [], []⟩
def d_desk_row : He.DefD := ⟨("desk_row", none), "desk_row", "desk_row", defArgs s_desk_row, defBody s_desk_row, defScope s_desk_row, [], []⟩
def d_time_row : He.DefD := ⟨("time_row", none), "time_row", "time_row", defArgs s_time_row, defBody s_time_row, defScope s_time_row, [], []⟩
def d_open_row : He.DefD := ⟨("open_row", none), "open_row", "open_row", defArgs s_open_row, defBody s_open_row, defScope s_open_row, [], []⟩
def d_pace_row : He.DefD := ⟨("pace_row", none), "pace_row", "pace_row", defArgs s_pace_row, defBody s_pace_row, defScope s_pace_row, [], []⟩
def d_plant_row : He.DefD := ⟨("plant_row", none), "plant_row", "plant_row", defArgs s_plant_row, defBody s_plant_row, defScope s_plant_row, [], []⟩
def d_read_plant : He.DefD := ⟨("read_plant", none), "read_plant", "read_plant", defArgs s_read_plant, defBody s_read_plant, defScope s_read_plant, [], []⟩
def d__law_mix : He.DefD := ⟨("_law_mix", none), "_law_mix", "_law_mix", defArgs s__law_mix, defBody s__law_mix, defScope s__law_mix, [], []⟩
def d__law_left : He.DefD := ⟨("_law_left", none), "_law_left", "_law_left", defArgs s__law_left, defBody s__law_left, defScope s__law_left, [], []⟩
def d__law_pick : He.DefD := ⟨("_law_pick", none), "_law_pick", "_law_pick", defArgs s__law_pick, defBody s__law_pick, defScope s__law_pick, [], []⟩
def d__law_spelt : He.DefD := ⟨("_law_spelt", none), "_law_spelt", "_law_spelt", defArgs s__law_spelt, defBody s__law_spelt, defScope s__law_spelt, [], []⟩
def d__law_spelt_all : He.DefD := ⟨("_law_spelt_all", none), "_law_spelt_all", "_law_spelt_all", defArgs s__law_spelt_all, defBody s__law_spelt_all, defScope s__law_spelt_all, [], []⟩
def d__law_same : He.DefD := ⟨("_law_same", none), "_law_same", "_law_same", defArgs s__law_same, defBody s__law_same, defScope s__law_same, [], []⟩
def d__law_plant : He.DefD := ⟨("_law_plant", none), "_law_plant", "_law_plant", defArgs s__law_plant, defBody s__law_plant, defScope s__law_plant, [], []⟩
def d__law_earliest : He.DefD := ⟨("_law_earliest", none), "_law_earliest", "_law_earliest", defArgs s__law_earliest, defBody s__law_earliest, defScope s__law_earliest, [], []⟩
def d__law_next_gate : He.DefD := ⟨("_law_next_gate", none), "_law_next_gate", "_law_next_gate", defArgs s__law_next_gate, defBody s__law_next_gate, defScope s__law_next_gate, [], []⟩
def d__law_day : He.DefD := ⟨("_law_day", none), "_law_day", "_law_day", defArgs s__law_day, defBody s__law_day, defScope s__law_day, [], []⟩
def d__law_due : He.DefD := ⟨("_law_due", none), "_law_due", "_law_due", defArgs s__law_due, defBody s__law_due, defScope s__law_due, [], []⟩
def d_law : He.DefD := ⟨("law", none), "law", "law", defArgs s_law, defBody s_law, defScope s_law, [], []⟩
def fn : List He.DefD := [d_is_too_fast, d_pace_fault, d_BadPlant___init__, d_greatest_load, d_words_of, d_is_name, d_number_in, d_positive_in, d_numbers_in, d_Plant___init__, d_desk_of, d_taker_of, d_has_place, d_first_due, d_kind_row, d_gate_row, d_line_row, d_rank_of, d_gather_of, d_turns_of, d_rule_of, d_places_told, d_desk_told, d_desk_row, d_time_row, d_open_row, d_pace_row, d_plant_row, d_read_plant, d__law_mix, d__law_left, d__law_pick, d__law_spelt, d__law_spelt_all, d__law_same, d__law_plant, d__law_earliest, d__law_next_gate, d__law_day, d__law_due, d_law]
def fa : List He.Fa := [.glo "is_too_fast", .glo "pace_fault", .glo "MergeError", .keep "MergeError", .glo "BadPlant", .keep "BadPlant", .glo "greatest_load", .str "LETTERS" "abcdefghijklmnopqrstuvwxyz", .str "FIGURES" "0123456789", .glo "words_of", .glo "is_name", .glo "number_in", .glo "positive_in", .glo "numbers_in", .int "MOST_PLACES" 6, .int "MOST_SHARE" 9, .glo "Plant", .cls "Plant", .mkr "Plant", .noat "Plant" "kinds", .noat "Plant" "gates", .noat "Plant" "lines", .noat "Plant" "desks", .noat "Plant" "times", .noat "Plant" "hours", .noat "Plant" "paces", .glo "desk_of", .glo "taker_of", .glo "has_place", .glo "first_due", .glo "kind_row", .glo "gate_row", .glo "line_row", .glo "rank_of", .glo "gather_of", .glo "turns_of", .glo "rule_of", .glo "places_told", .glo "desk_told", .glo "desk_row", .glo "time_row", .glo "open_row", .glo "pace_row", .glo "plant_row", .glo "read_plant", .glo "_law_mix", .glo "_law_left", .glo "_law_pick", .glo "_law_spelt", .glo "_law_spelt_all", .glo "_law_same", .glo "_law_plant", .glo "_law_earliest", .glo "_law_next_gate", .glo "_law_day", .glo "_law_due", .glo "law", .free "ValueError", .free "abs", .free "all", .free "any", .free "bool", .free "dict", .free "enumerate", .free "int", .free "isinstance", .free "len", .free "list", .free "max", .free "min", .free "range", .free "repr", .free "set", .free "sorted", .free "str", .free "sum", .free "tuple", .free "zip"]
abbrev R : PySem.W.OpenRow := PySem.W.OpenLaw.row PySem.Challenge.rw_mergeline_k67_paces_of_two_hundred_goods
abbrev hk : PySem.W.Hook := He.hookD 4 fa fn
def ob (s : PySem.W.SharedT) : He.AlD := He.obsDG 4 fa fn (HandSHeadRun.getT s)
theorem ob_eq (s : PySem.W.SharedT) : ob s = hk.obs s.abs := He.obsDG_eq (HandSHeadRun.getT_eq s)
def loose0 : List Str := ["is_too_fast", "pace_fault", "MergeError", "BadPlant", "greatest_load", "LETTERS", "FIGURES", "words_of", "is_name", "number_in", "positive_in", "numbers_in", "MOST_PLACES", "MOST_SHARE", "Plant", "desk_of", "taker_of", "has_place", "first_due", "kind_row", "gate_row", "line_row", "rank_of", "gather_of", "turns_of", "rule_of", "places_told", "desk_told", "desk_row", "time_row"]
def loose1 : List Str := ["open_row", "pace_row", "plant_row", "read_plant", "_law_mix", "_law_left", "_law_pick", "_law_spelt", "_law_spelt_all", "_law_same", "_law_plant", "_law_earliest", "_law_next_gate", "_law_day", "_law_due"]
abbrev loose : List Str := loose0 ++ loose1
theorem run (w : World) : HandSHeadRun.RunEq R (PySem.W.view R.prog [51]) hk ob 6000 loose w := by
  intro os
  kernel_rfl
end Hd
set_option Elab.async false
set_option linter.all false
set_option maxRecDepth 100000
set_option maxHeartbeats 4000000
namespace K67
open PySem PySem.Spec PyProof.Rows L2 TL
def top (i : Nat) : Stmt := PySem.Challenge.pw_mergeline_k67_paces_of_two_hundred_goods.main.body.getD i (.Pass ⟨0, 0, 0, 0⟩)
abbrev s_is_too_fast : Stmt := top 1
abbrev s_pace_fault : Stmt := top 2


abbrev s_greatest_load : Stmt := top 7
abbrev s_words_of : Stmt := top 11
abbrev s_is_name : Stmt := top 12
abbrev s_number_in : Stmt := top 13
abbrev s_positive_in : Stmt := top 14
abbrev s_numbers_in : Stmt := top 15

abbrev s_desk_of : Stmt := top 20
abbrev s_taker_of : Stmt := top 21
abbrev s_has_place : Stmt := top 22
abbrev s_first_due : Stmt := top 23
abbrev s_kind_row : Stmt := top 24
abbrev s_gate_row : Stmt := top 25
abbrev s_line_row : Stmt := top 26
abbrev s_rank_of : Stmt := top 27
abbrev s_gather_of : Stmt := top 28
abbrev s_turns_of : Stmt := top 29
abbrev s_rule_of : Stmt := top 30
abbrev s_places_told : Stmt := top 31
abbrev s_desk_told : Stmt := top 32
abbrev s_desk_row : Stmt := top 33
abbrev s_time_row : Stmt := top 34
abbrev s_open_row : Stmt := top 35
abbrev s_pace_row : Stmt := top 36
abbrev s_plant_row : Stmt := top 37
abbrev s_read_plant : Stmt := top 38
abbrev s__law_mix : Stmt := top 40
abbrev s__law_left : Stmt := top 41
abbrev s__law_pick : Stmt := top 42
abbrev s__law_spelt : Stmt := top 43
abbrev s__law_spelt_all : Stmt := top 44
abbrev s__law_same : Stmt := top 45
abbrev s__law_plant : Stmt := top 46
abbrev s__law_earliest : Stmt := top 47
abbrev s__law_next_gate : Stmt := top 48
abbrev s__law_day : Stmt := top 49
abbrev s__law_due : Stmt := top 50
abbrev s_law : Stmt := top 51
theorem k_empty : tl ("" : Str) = [] := by decide +kernel
theorem k__10_ : tl ("\n" : Str) = [10] := by decide +kernel
theorem k__32_ : tl (" " : Str) = [32] := by decide +kernel
theorem k__32__45_ : tl (" -" : Str) = [32, 45] := by decide +kernel
theorem k__45_ : tl ("-" : Str) = [45] := by decide +kernel
theorem k_0 : tl ("0" : Str) = [48] := by decide +kernel
theorem k_0123456789 : tl ("0123456789" : Str) = [48, 49, 50, 51, 52, 53, 54, 55, 56, 57] := by decide +kernel
theorem k_a_32_row_32_of_32_a_32_plant_32_at_32_fault : tl ("a row of a plant at fault" : Str) = [97, 32, 114, 111, 119, 32, 111, 102, 32, 97, 32, 112, 108, 97, 110, 116, 32, 97, 116, 32, 102, 97, 117, 108, 116] := by decide +kernel
theorem k_abcdefghijklmnopqrstuvwxyz : tl ("abcdefghijklmnopqrstuvwxyz" : Str) = [97, 98, 99, 100, 101, 102, 103, 104, 105, 106, 107, 108, 109, 110, 111, 112, 113, 114, 115, 116, 117, 118, 119, 120, 121, 122] := by decide +kernel
theorem k_by : tl ("by" : Str) = [98, 121] := by decide +kernel
theorem k_desk : tl ("desk" : Str) = [100, 101, 115, 107] := by decide +kernel
theorem k_eldest : tl ("eldest" : Str) = [101, 108, 100, 101, 115, 116] := by decide +kernel
theorem k_from : tl ("from" : Str) = [102, 114, 111, 109] := by decide +kernel
theorem k_gate : tl ("gate" : Str) = [103, 97, 116, 101] := by decide +kernel
theorem k_gate_32_ : tl ("gate " : Str) = [103, 97, 116, 101, 32] := by decide +kernel
theorem k_gates : tl ("gates" : Str) = [103, 97, 116, 101, 115] := by decide +kernel
theorem k_gather : tl ("gather" : Str) = [103, 97, 116, 104, 101, 114] := by decide +kernel
theorem k_kind : tl ("kind" : Str) = [107, 105, 110, 100] := by decide +kernel
theorem k_kind_32_ : tl ("kind " : Str) = [107, 105, 110, 100, 32] := by decide +kernel
theorem k_kinds : tl ("kinds" : Str) = [107, 105, 110, 100, 115] := by decide +kernel
theorem k_line : tl ("line" : Str) = [108, 105, 110, 101] := by decide +kernel
theorem k_many : tl ("many" : Str) = [109, 97, 110, 121] := by decide +kernel
theorem k_meet : tl ("meet" : Str) = [109, 101, 101, 116] := by decide +kernel
theorem k_name : tl ("name" : Str) = [110, 97, 109, 101] := by decide +kernel
theorem k_open : tl ("open" : Str) = [111, 112, 101, 110] := by decide +kernel
theorem k_p : tl ("p" : Str) = [112] := by decide +kernel
theorem k_pace : tl ("pace" : Str) = [112, 97, 99, 101] := by decide +kernel
theorem k_paces : tl ("paces" : Str) = [112, 97, 99, 101, 115] := by decide +kernel
theorem k_rank : tl ("rank" : Str) = [114, 97, 110, 107] := by decide +kernel
theorem k_room : tl ("room" : Str) = [114, 111, 111, 109] := by decide +kernel
theorem k_row : tl ("row" : Str) = [114, 111, 119] := by decide +kernel
theorem k_text : tl ("text" : Str) = [116, 101, 120, 116] := by decide +kernel
theorem k_time : tl ("time" : Str) = [116, 105, 109, 101] := by decide +kernel
theorem k_to : tl ("to" : Str) = [116, 111] := by decide +kernel
theorem k_turns : tl ("turns" : Str) = [116, 117, 114, 110, 115] := by decide +kernel
theorem k_twice : tl ("twice" : Str) = [116, 119, 105, 99, 101] := by decide +kernel
structure Bl (mg : Str → Option Value) : Prop where
  abs : mg "abs" = none
  all : mg "all" = none
  any : mg "any" = none
  bool : mg "bool" = none
  dict : mg "dict" = none
  enumerate : mg "enumerate" = none
  int : mg "int" = none
  isinstance : mg "isinstance" = none
  len : mg "len" = none
  list : mg "list" = none
  max : mg "max" = none
  min : mg "min" = none
  range : mg "range" = none
  str : mg "str" = none
  sum : mg "sum" = none
  tuple : mg "tuple" = none
  zip : mg "zip" = none
  g_LETTERS : ∃ t, mg "LETTERS" = some (.str "abcdefghijklmnopqrstuvwxyz" t)
  g_FIGURES : ∃ t, mg "FIGURES" = some (.str "0123456789" t)
theorem Bl.c_LETTERS {mg : Str → Option Value} (B : Bl mg) {X : Cx} {pos : Pos} (hg : Gl X "LETTERS") (hm : X.mg = mg := by rfl) : WE X 0 (.Name "LETTERS" pos) (wC (.str (tl ("abcdefghijklmnopqrstuvwxyz" : Str)))) := by
  obtain ⟨t, h⟩ := B.g_LETTERS
  exact we_glob hg (by rw [hm]; exact h) (v := .str "abcdefghijklmnopqrstuvwxyz") ⟨t, rfl⟩ (fun G => repStr _ (by decide +kernel))
theorem Bl.c_FIGURES {mg : Str → Option Value} (B : Bl mg) {X : Cx} {pos : Pos} (hg : Gl X "FIGURES") (hm : X.mg = mg := by rfl) : WE X 0 (.Name "FIGURES" pos) (wC (.str (tl ("0123456789" : Str)))) := by
  obtain ⟨t, h⟩ := B.g_FIGURES
  exact we_glob hg (by rw [hm]; exact h) (v := .str "0123456789") ⟨t, rfl⟩ (fun G => repStr _ (by decide +kernel))
structure Ks (K : PySem.W.Frag) (mg : Str → Option Value) (C : Addr) : Prop where
  c_Plant : Cls K C
  g_Plant : mg "Plant" = some (.ref C)
  n_Plant_kinds : NoAttr K C "kinds"
  n_Plant_gates : NoAttr K C "gates"
  n_Plant_lines : NoAttr K C "lines"
  n_Plant_desks : NoAttr K C "desks"
  n_Plant_times : NoAttr K C "times"
  n_Plant_hours : NoAttr K C "hours"
  n_Plant_paces : NoAttr K C "paces"
local macro_rules | `(tactic| walk_at "cst") => `(tactic| first | decide | (simp only [sizeLine_eq]; decide))
local macro_rules | `(tactic| walk_at "ev") => `(tactic| simp only [sSeq, sIf, sRetN, sNext, sSet, sDrop, sBreak, sCont, sOwn, tst, w2, w1, wN, wC, wCons, wNil, wIfE, vAnd, vOr, vNot, bAnd, bOr, bNot, wChain, wSl, wNo, oSub, oMul, oDiv, oMod, oPow, oLt, oLe, oGt, oGe, rho, optP_some, optP_none, asB_bl, asD_fr, look_0, look_s, wVar_eq, sRet_eq, frs_nil, frs_cons, wTup_eq, wLst_eq, nLst_eq, mkTup_1, mkTup_2, mkTup_3, mkTup_4, mkTup_0, oAdd_int, oAdd_str, oAdd_lst, oAdd_tup, oI_int, oI0_int, oNeg_int, isNon_non, isNon_int, isNon_str, isNon_bl, isNon_lst, isNon_tup, oIsN_non, oNotN_non, atI_0, atI_1, atI_2, atI_3, oIx_lst, oIx_tup, oIx_scr, oIx_own, oIx_ttup, oIx_str, oIx_dkS, oIx_dkI, oIn_lst, oIn_tup, oNotIn_lst, oNotIn_tup, oIn_own, oNotIn_own, oIn_sign, oNotIn_sign, oIn_dkS, oNotIn_dkS, flat_non, flat_bl, flat_int, flat_str, oEq_fr, oNe_fr, oEq_own, oNe_own, okP_non, okP_bl, okP_int, okP_str, okP_lst, okP_tup, eqD_non_int, eqD_int_non, eqD_non_non, eqD_str_non, eqD_non_str, eqD_str_int, eqD_int_str, oLen_lst, oLen_tup, oLen_scr, oLen_own, oLen_str, o1_eq, oSum_lst, oAny_lst, oAll_lst, oMaxV_2, oMinV_2, oMaxV_1, oMinV_1, oAbs_int, oInt_int, oInt_bl, oList_lst, oList_tup, oList_own, oTuple_lst, oTuple_tup, oTuple_own, oSl_lst, oSl_str, oSl_tup, oSl_own, wPart_eq, asI_int, wiSeq_eq, itE_lst, itE_tup, itE_scr, itE_own, wiStr_eq, itS_str, wiRng1_eq, itR1_int, wiRng2_eq, itR2_int, wiEnum_eq, itEn_lst, itEn_own, wiZip_eq, itZ_lst, bindP_nm, bindP_tup, bindP_ttup, bindPs_nil, bindPs_cons, sUnp_eq, lent_fr, sPar_eq, par2_eq, wipeR_nil, wipeR_cons, set_0, set_s, sAppend_eq, ownE_lst, sRetOwn_eq, sFreeze_eq, asL_lst, sExtend_eq, nList_eq, nL_lst, nL_tup, wCall_eq, lends_nil, lends_cons, lend_fr, lend_own, lent_own_false, app_fr, apps_fr, wLcG_eq, sFor_eq, sWhile_eq, List.map_cons, List.map_nil, List.length_cons, List.length_nil, List.replicate, List.cons_append, List.nil_append, List.append_nil, List.all_cons, List.all_nil, List.any_cons, List.any_nil, Bool.and_true, Bool.true_and, Bool.and_self, and_self, true_and, and_true, eqD_int, eqD_bl, eqD_str, Bool.not_true, Bool.not_false, if_true, if_false, ite_true, ite_false, Bool.false_eq_true, reduceCtorEq, Option.map_some, Option.map_none, Option.bind_some, Option.bind_none, Option.isSome_some, Option.isSome_none, Nat.reduceAdd, Nat.reduceSub, Nat.reduceLeDiff, Nat.sub_self, Nat.sub_zero, Nat.le_refl, ite_self, Bool.or_false, Bool.or_true, Bool.false_or, Bool.true_or, Bool.false_and, Bool.and_false, Nat.zero_add, decide_eq_true_eq, Bool.not_eq_true, Bool.not_eq_false, decide_true, decide_false, not_true_eq_false, not_false_eq_true, Int.reduceNeg, sSetM, sRetM, sDropM, mMk, mFrz, mD, mN, mLst, mTup, mDk0, mDt0, sPutP, sPar2, sPar3, wM1, wFrz, mDict, mDisp, pCons, pNil, aNil, aOwn, aVal, pKey, sSdApp, endM, pVar_eq, mTake_eq, insE_ins, pFld_eq, lstE_lst, dkE_dk, sAppP_eq, sFldP_eq, sSd_eq, tAt_eq, at_nil, at_cons, get_fld, get_key, get_keyT, get_ix, chgAt_eq, upd_nil, putAt_dkS, putAt_dkI, putAt_lst, roomy_dk, roomy_lst, step_dkS, step_lst, oFld_ins, oFld_own, isSt_str, oSplit_1, oStarts_str, oJoin_str, seqD_lst, strsD_map, strsD_nil, strsD_cons, oIntV_str, oIntV_int, oIntV_bl, tyT_non, tyT_bl, tyT_int, tyT_str, tyT_lst, tyT_tup, frz_fr, frz_lst, frz_dk, own_fr, own_lst, own_dk, lends_fr, Option.bind_some, Option.bind_none, Option.map_some, Option.map_none, List.nil_append, List.cons_append, oIsa, List.any_cons, List.any_nil, Ty7.isa, Bool.or_false, Bool.false_or, Bool.or_true, Bool.true_or, mCall, mMake, keyD, keyT, lstT])

local macro_rules | `(tactic| walk_at "ks") => `(tactic| simp only [k_empty, k__10_, k__32_, k__32__45_, k__45_, k_0, k_0123456789, k_a_32_row_32_of_32_a_32_plant_32_at_32_fault, k_abcdefghijklmnopqrstuvwxyz, k_by, k_desk, k_eldest, k_from, k_gate, k_gate_32_, k_gates, k_gather, k_kind, k_kind_32_, k_kinds, k_line, k_many, k_meet, k_name, k_open, k_p, k_pace, k_paces, k_rank, k_room, k_row, k_text, k_time, k_to, k_turns, k_twice] at *)
variable {P : Program} {w : World} {K : PySem.W.Frag} {mg : Str → Option Value} {base : Heap}
/-! words -/
def wordsOf (l : List Nat) : List (List Nat) := (splitC 32 l).filter fun w => decide (w ≠ [])
def lettersC : List Nat := tl ("abcdefghijklmnopqrstuvwxyz" : Str)
def figuresC : List Nat := tl ("0123456789" : Str)
def isName (w : List Nat) : Bool := decide (1 ≤ (w.length : Int)) && (decide ((w.length : Int) ≤ 8) && w.all fun c => decide (c ∈ lettersC))
def numberIn (w : List Nat) : Option Int :=
  if (w.length : Int) < 1 ∨ 6 < (w.length : Int) ∨ (w ≠ [48] ∧ startsC w [48] = true) then none
  else if (w.all fun c => decide (c ∈ figuresC)) = true then some ((NumText.digitsVal w : Nat) : Int) else none
def positiveIn (w : List Nat) : Option Int := if w = [48] then none else numberIn w
def optD : Option Int → D
  | none => .non
  | some i => .int i
def numbersIn (ws : List (List Nat)) : Option (List Int) := if (ws.all fun w => (positiveIn w).isSome) = true then some (ws.map fun w => (positiveIn w).getD 0) else none
def S_words_of : List T → (D → Prop) → Prop := fun ts P => ∃ l : List Nat, ts = [.fr (.str l)] ∧ l.length + 2 ≤ sizeLine ∧ P (.lst ((wordsOf l).map .str))
def S_is_name : List T → (D → Prop) → Prop := fun ts P => ∃ w, ts = [.fr (.str w)] ∧ P (.bl (isName w))
def S_number_in : List T → (D → Prop) → Prop := fun ts P => ∃ w, ts = [.fr (.str w)] ∧ P (optD (numberIn w))
def S_positive_in : List T → (D → Prop) → Prop := fun ts P => ∃ w, ts = [.fr (.str w)] ∧ P (optD (positiveIn w))
def S_numbers_in : List T → (D → Prop) → Prop := fun ts P => ∃ ws : List (List Nat), ts = [.fr (.lst (ws.map .str))] ∧ ws.length ≤ 100 ∧ P (match numbersIn ws with | some ns => .lst (ns.map .int) | none => .non)
theorem figures_dig (l : List Nat) (h : (l.all fun c => decide (c ∈ figuresC)) = true) : allDig l = true := by
  unfold allDig
  rw [List.all_eq_true] at h ⊢
  intro c hc
  have := of_decide_eq_true (h c hc)
  have k : ∀ c ∈ figuresC, (decide (48 ≤ c) && decide (c ≤ 57)) = true := by decide +kernel
  exact k c this
theorem oAll_bls {α : Type} (xs : List α) (f : α → Bool) (P : T → Prop) : oAll (.fr (.lst (xs.map fun c => .bl (f c)))) P = P (.fr (.bl (xs.all f))) := by
  have e : blsD (xs.map fun c => D.bl (f c)) = some (xs.map f) := by
    induction xs with
    | nil => rfl
    | cons x xs ih => simp only [List.map_cons, blsD, ih]; rfl
  rw [oAll_lst, e, optP_some]
  congr 3
  rw [List.all_map]
  rfl
theorem flat_opt (ws : List (List Nat)) : (ws.map fun w => optD (positiveIn w)).all flatD = true := by
  induction ws with
  | nil => rfl
  | cons w ws ih =>
    rw [List.map_cons, List.all_cons, ih, Bool.and_true]
    cases positiveIn w <;> rfl
theorem none_in (ws : List (List Nat)) : ((ws.map fun w => optD (positiveIn w)).any fun e => eqD e D.non) = !(ws.all fun w => (positiveIn w).isSome) := by
  induction ws with
  | nil => rfl
  | cons w ws ih =>
    rw [List.map_cons, List.any_cons, ih, List.all_cons]
    cases positiveIn w with
    | none => rfl
    | some i => rw [show optD (some i) = .int i from rfl, eqD_int_non]; simp
theorem ints_of (ws : List (List Nat)) (h : (ws.all fun w => (positiveIn w).isSome) = true) : (ws.map fun w => optD (positiveIn w)) = (ws.map fun w => (positiveIn w).getD 0).map D.int := by
  rw [List.map_map]
  refine List.map_congr_left fun w hw => ?_
  have := List.all_eq_true.mp h w hw
  cases e : positiveIn w with
  | none => rw [e] at this; cases this
  | some i => simp [e, optD]

theorem fn_words_of (A : At K mg "words_of" "words_of" s_words_of) (B : Bl mg) : Fn P w K mg base "words_of" 1 1 (0) S_words_of := by
  have sc : FnScope ["row", "word"] ["row"] (defScope s_words_of) := ⟨rfl, rfl, rfl, by decide +kernel, rfl, by decide +kernel, by decide +kernel⟩
  have nd := sc.nd
  refine Fn.of (k := 0) A sc (fun _ _ _ _ _ _ us hl => match us, hl with | [_], _ => rfl) rfl ?hc (fun f cdv A outer s H E hr =>
      (wss_one (ws_ret (we_lc (own := [("word", 1)]) (p := (.nm 1)) rfl nd (wi_seq (we_m1 l_split PySem.F.slot_str_split PySem.F.type_str_split mt_split (we_var (pv 0)) we_str)) (blkOk_by (by rfl)) (fun _ _ _ _ _ => (pg_name (i := 1) nd rfl (Or.inl rfl))) (fun _ _ _ _ _ => wts_one (wt_cmp (op_neD hr.units) l_ne (we_var (pv 1)) we_str (nomark _))) (fun _ _ _ _ _ => (we_var (pv 1))))))) ?hs
  case hc => walk_at "cst"
  case hs =>
    intro ts Q hl h
    obtain ⟨l, rfl, h1, h2⟩ := h
    walk_at "ev"
    simp only [k__32_, k_empty]
    walk_at "ev"
    refine ⟨h1, ?_⟩
    rw [List.map_map]
    refine lc_fm (splitC 32 l) (T.fr ∘ D.str) (fun w => if w = [] then none else some (.str w)) trivial (fun w _ A B q => ?_) ?_
    · simp only [Function.comp]
      walk_at "ev"
      by_cases e : w = []
      · subst e; simpa using q
      · simpa [e] using q
    · have : (splitC 32 l).filterMap (fun w => if w = [] then none else some (D.str w)) = (wordsOf l).map .str := by
        unfold wordsOf
        induction splitC 32 l with
        | nil => rfl
        | cons w ws ih => by_cases e : w = [] <;> simp [e, ih]
      rw [this]; exact h2

theorem fn_is_name (A : At K mg "is_name" "is_name" s_is_name) (B : Bl mg) : Fn P w K mg base "is_name" 1 1 (0) S_is_name := by
  have sc : FnScope ["word", "sign"] ["word"] (defScope s_is_name) := ⟨rfl, rfl, rfl, by decide +kernel, rfl, by decide +kernel, by decide +kernel⟩
  have nd := sc.nd
  refine Fn.of (k := 0) A sc (fun _ _ _ _ _ _ us hl => match us, hl with | [_], _ => rfl) rfl ?hc (fun f cdv A outer s H E hr =>
      (wss_cons (ws_if (wt_not (wt_chain op_le l_le op_le l_le we_int (we_callB call_lenV l_len rfl B.len (by decide +kernel) (wa_cons (we_var (pv 0)) wa_nil)) we_int)) (wss_one (ws_ret we_bl)) wss_nil)
      (wss_one (ws_ret (we_callB (cr_all rfl) l_all rfl B.all (by decide +kernel) (wa_cons (we_lc (own := [("sign", 1)]) (p := (.nm 1)) rfl nd (wi_str (we_var (pv 0))) (blkOk_by (by rfl)) (fun _ _ _ _ _ => (pg_name (i := 1) nd rfl (Or.inl rfl))) (fun _ _ _ _ _ => wts_nil) (fun _ _ _ _ _ => (we_cmp (op_inV (hu_of hr)) l_in (we_var (pv 1)) (B.c_LETTERS rfl) rfl))) wa_nil)))))) ?hs
  case hc => walk_at "cst"
  case hs =>
    intro ts Q hl h
    obtain ⟨l, rfl, h⟩ := h
    walk_at "ev"
    unfold isName at h
    by_cases h1 : 1 ≤ (l.length : Int)
    · rw [if_pos h1]
      by_cases h8 : (l.length : Int) ≤ 8
      · simp only [h8, h1, decide_true, Bool.not_true, Bool.false_eq_true, if_false, Bool.true_and] at h ⊢
        refine lc_map l (fun c => .fr (.str [c])) (fun c => .bl (decide (c ∈ lettersC))) trivial (fun c _ A B q => ?_) ?_
        · walk_at "ev"
          exact q
        · simp only [oAll_bls]
          exact h
      · simpa [h8, h1] using h
    · rw [if_neg h1]; simpa [h1] using h

theorem fn_number_in (A : At K mg "number_in" "number_in" s_number_in) (B : Bl mg) : Fn P w K mg base "number_in" 1 1 (0) S_number_in := by
  have sc : FnScope ["word", "sign"] ["word"] (defScope s_number_in) := ⟨rfl, rfl, rfl, by decide +kernel, rfl, by decide +kernel, by decide +kernel⟩
  have nd := sc.nd
  refine Fn.of (k := 0) A sc (fun _ _ _ _ _ _ us hl => match us, hl with | [_], _ => rfl) rfl ?hc (fun f cdv A outer s H E hr =>
      (wss_cons (ws_if (wt_ww (ww_or (wt_not (wt_chain op_le l_le op_le l_le we_int (we_callB call_lenV l_len rfl B.len (by decide +kernel) (wa_cons (we_var (pv 0)) wa_nil)) we_int)) (ww_one (wt_ww (ww_and (wt_cmp (op_neD hr.units) l_ne (we_var (pv 0)) we_str (nomark _)) (ww_one (wt_val (we_m1 l_starts PySem.F.slot_str_startswith PySem.F.type_str_startswith mt_startswith (we_var (pv 0)) we_str)) (.inl rfl)))) (.inr rfl)))) (wss_one (ws_ret we_non)) wss_nil)
      (wss_cons (ws_if (wt_not (wt_val (we_callB (cr_all rfl) l_all rfl B.all (by decide +kernel) (wa_cons (we_lc (own := [("sign", 1)]) (p := (.nm 1)) rfl nd (wi_str (we_var (pv 0))) (blkOk_by (by rfl)) (fun _ _ _ _ _ => (pg_name (i := 1) nd rfl (Or.inl rfl))) (fun _ _ _ _ _ => wts_nil) (fun _ _ _ _ _ => (we_cmp (op_inV (hu_of hr)) l_in (we_var (pv 1)) (B.c_FIGURES rfl) rfl))) wa_nil)))) (wss_one (ws_ret we_non)) wss_nil)
      (wss_one (ws_ret (we_callTy (CallR.or call_int1 call_int_str) l_intV rfl B.int (by decide +kernel) (wa_cons (we_var (pv 0)) wa_nil))))))) ?hs
  case hc => walk_at "cst"
  case hs =>
    intro ts Q hl h
    obtain ⟨l, rfl, h⟩ := h
    walk_at "ev"
    have key : ¬ ((l.length : Int) < 1) → ¬ (6 < (l.length : Int)) → (numberIn l = if (l ≠ [48] ∧ startsC l [48] = true) then none else if (l.all fun c => decide (c ∈ figuresC)) = true then some ((NumText.digitsVal l : Nat) : Int) else none) := fun a b => by
      unfold numberIn; simp [a, b]
    have fin : 1 ≤ (l.length : Int) → (l.length : Int) ≤ 6 → ¬ (l ≠ [48] ∧ startsC l [48] = true) → lcE (fun x => True) [1] (Pat.nm 1) (fun x P => P true) (w2 oIn (wVar 1) (wC (D.str (tl ("0123456789" : Str))))) [some (T.fr (D.str l)), none] (l.map fun c => .fr (.str [c])) fun t => oAll t (asB fun k => if (!k) = true then Q D.non else allDig l = true ∧ l ≠ [] ∧ l.length ≤ 640 ∧ Q (D.int ↑(NumText.digitsVal l))) := by
      intro a b c
      rw [key (by omega) (by omega), if_neg c] at h
      refine lc_map l (fun c => .fr (.str [c])) (fun c => .bl (decide (c ∈ figuresC))) trivial (fun c _ A B q => ?_) ?_
      · walk_at "ev"
        exact q
      · simp only [oAll_bls]
        by_cases z : (l.all fun c => decide (c ∈ figuresC)) = true
        · rw [if_pos z] at h
          walk_at "ev"
          simp only [z, Bool.not_true, Bool.false_eq_true, if_false]
          refine ⟨figures_dig l z, fun e => ?_, by omega, h⟩
          subst e; simp at a
        · rw [if_neg z] at h
          walk_at "ev"
          simp only [Bool.not_eq_true] at z
          simp only [z, Bool.not_false, if_true]
          exact h
    simp only [k_0] at *
    by_cases h1 : 1 ≤ (l.length : Int)
    · rw [if_pos h1]
      by_cases h8 : (l.length : Int) ≤ 6
      · simp only [h8, decide_true, Bool.not_true, Bool.false_eq_true, if_false]
        by_cases e : l = [48]
        · simp only [e, decide_true, Bool.not_true, Bool.false_eq_true, if_false]
          rw [← e]
          exact fin h1 h8 (fun z => z.1 e)
        · simp only [e, decide_false, Bool.not_false, if_true]
          by_cases s : startsC l [48] = true
          · rw [if_pos s]
            rw [key (by omega) (by omega), if_pos ⟨e, s⟩] at h
            exact h
          · rw [if_neg s]
            exact fin h1 h8 (fun z => s z.2)
      · have : numberIn l = none := by
          unfold numberIn
          rw [if_pos (.inr (.inl (by omega)))]
        rw [this] at h
        simpa [h8, optD] using h
    · rw [if_neg h1]
      have : numberIn l = none := by
        unfold numberIn
        rw [if_pos (.inl (by omega))]
      rw [this] at h
      exact h

theorem fn_positive_in (A : At K mg "positive_in" "positive_in" s_positive_in) (B : Bl mg) (F_number_in : Fn P w K mg base "number_in" 1 1 (0) S_number_in) : Fn P w K mg base "positive_in" 2 1 (0) S_positive_in := by
  have sc : FnScope ["word"] ["word"] (defScope s_positive_in) := ⟨rfl, rfl, rfl, by decide +kernel, rfl, by decide +kernel, by decide +kernel⟩
  have nd := sc.nd
  refine Fn.of (k := 1) A sc (fun _ _ _ _ _ _ us hl => match us, hl with | [_], _ => rfl) rfl ?hc (fun f cdv A outer s H E hr =>
      (wss_cons (ws_if (wt_cmp (op_eqD hr.units) l_eq (we_var (pv 0)) we_str (nomark _)) (wss_one (ws_ret we_non)) wss_nil)
      (wss_one (ws_ret (we_fn F_number_in hr (by decide) rfl (wa_cons (we_var (pv 0)) wa_nil)))))) ?hs
  case hc => walk_at "cst"
  case hs =>
    intro ts Q hl h
    obtain ⟨l, rfl, h⟩ := h
    walk_at "ev"
    simp only [k_0]
    unfold positiveIn at h
    by_cases e : l = [48]
    · rw [if_pos e] at h ⊢; exact h
    · rw [if_neg e] at h ⊢; exact ⟨l, rfl, h⟩

theorem fn_numbers_in (A : At K mg "numbers_in" "numbers_in" s_numbers_in) (B : Bl mg) (F_positive_in : Fn P w K mg base "positive_in" 2 1 (0) S_positive_in) : Fn P w K mg base "numbers_in" 3 1 (0) S_numbers_in := by
  have sc : FnScope ["words", "numbers", "word"] ["words"] (defScope s_numbers_in) := ⟨rfl, rfl, rfl, by decide +kernel, rfl, by decide +kernel, by decide +kernel⟩
  have nd := sc.nd
  refine Fn.of (k := 2) A sc (fun _ _ _ _ _ _ us hl => match us, hl with | [_], _ => rfl) rfl ?hc (fun f cdv A outer s H E hr =>
      (wss_cons (ws_setLc (own := [("word", 2)]) (p := (.nm 2)) (i := 1) rfl nd rfl rfl (sw_true rfl rfl rfl (by decide +kernel)) (wi_seq (we_var (pv 0))) (blkOk_by (by rfl)) (fun _ _ _ _ _ => (pg_name (i := 2) nd rfl (Or.inl rfl))) (fun _ _ _ _ _ => wts_nil) (fun _ _ _ _ _ => (we_fn F_positive_in hr (by decide) rfl (wa_cons (we_var (pv 2)) wa_nil))))
      (wss_cons (ws_if (wt_cmp (op_inV (hu_of hr)) l_in we_non (we_var (pv 1)) rfl) (wss_one (ws_ret we_non)) wss_nil)
      (wss_one (ws_ret (we_var (pv 1))))))) ?hs
  case hc => walk_at "cst"
  case hs =>
    intro ts Q hl h
    obtain ⟨l, rfl, h1, h2⟩ := h
    walk_at "ev"
    rw [List.map_map]
    refine lc_map l (T.fr ∘ D.str) (fun w => optD (positiveIn w)) trivial (fun w _ A B q => ?_) ?_
    · walk_at "ev"
      exact ⟨w, rfl, q⟩
    · walk_at "ev"
      refine ⟨flat_opt l, ?_⟩
      rw [none_in]
      unfold numbersIn at h2
      by_cases e : (l.all fun w => (positiveIn w).isSome) = true
      · rw [if_pos e] at h2
        rw [if_neg (by rw [e]; exact Bool.false_ne_true), ints_of l e]
        exact h2
      · rw [if_neg e] at h2
        rw [if_pos (by cases z : (l.all fun w => (positiveIn w).isSome) with | true => exact absurd z e | false => rfl)]
        exact h2

/-! plants -/
structure PlD where
  kinds : List (List Nat × Option Int) := []
  gates : List (List Nat) := []
  lines : List (List Nat × Int) := []
  desks : List D := []
  times : List ((List Nat × List Nat) × Int) := []
  hours : List (List Nat × List (Int × Int)) := []
  paces : List (List Nat × (List Nat × Int × Int)) := []
def paceD (q : List Nat × Int × Int) : D := .tup [.str q.1, .int q.2.1, .int q.2.2]
def kindsK (p : PlD) : List (KY × D) := p.kinds.map fun q => (.inr q.1, optD q.2)
def linesK (p : PlD) : List (KY × D) := p.lines.map fun q => (.inr q.1, .int q.2)
def pacesK (p : PlD) : List (KY × D) := p.paces.map fun q => (.inr q.1, paceD q.2)
def timesK (p : PlD) : List (List KY × D) := p.times.map fun q => ([.inr q.1.1, .inr q.1.2], .int q.2)
def hourD (q : Int × Int) : D := .tup [.int q.1, .int q.2]
def hoursK (p : PlD) : List (KY × T) := p.hours.map fun q => (.inr q.1, .lst true (q.2.map fun h => .fr (hourD h)))
def fieldsT (p : PlD) : List (Str × T) := [("kinds", .dk true (frK (kindsK p))), ("gates", .lst true (p.gates.map fun g => .fr (.str g))), ("lines", .dk true (frK (linesK p))), ("desks", .lst true (p.desks.map .fr)), ("times", .dt true (frK (timesK p))), ("hours", .dk true (hoursK p)), ("paces", .dk true (frK (pacesK p)))]
def plT (C : Addr) (p : PlD) : T := .ins true C (fieldsT p)
theorem f_kinds (p : PlD) : getK (fieldsT p) "kinds" = some (.dk true (frK (kindsK p))) := rfl
theorem f_gates (p : PlD) : getK (fieldsT p) "gates" = some (.lst true (p.gates.map fun g => .fr (.str g))) := rfl
theorem f_lines (p : PlD) : getK (fieldsT p) "lines" = some (.dk true (frK (linesK p))) := rfl
theorem f_desks (p : PlD) : getK (fieldsT p) "desks" = some (.lst true (p.desks.map .fr)) := rfl
theorem f_times (p : PlD) : getK (fieldsT p) "times" = some (.dt true (frK (timesK p))) := rfl
theorem f_hours (p : PlD) : getK (fieldsT p) "hours" = some (.dk true (hoursK p)) := rfl
theorem f_paces (p : PlD) : getK (fieldsT p) "paces" = some (.dk true (frK (pacesK p))) := rfl
def hasPlace (p : PlD) (n : List Nat) : Bool := p.gates.any (fun g => decide (g = n)) || p.lines.any (fun q => decide (q.1 = n))
def S_has_place (C : Addr) : List T → (D → Prop) → Prop := fun ts P => ∃ p n, ts = [(plT C p).lend, .fr (.str n)] ∧ P (.bl (hasPlace p n))
def firstDue (a b c : Bool) : List Nat := if a then tl ("twice" : Str) else if b then tl ("name" : Str) else if c then tl ("room" : Str) else []
def S_first_due : List T → (D → Prop) → Prop := fun ts P => ∃ a b c, ts = [.fr (.bl a), .fr (.bl b), .fr (.bl c)] ∧ P (.str (firstDue a b c))
def rowS : List Nat := tl ("row" : Str)
def twiceS : List Nat := tl ("twice" : Str)
def kindRow (p : PlD) : List (List Nat) → PlD × List Nat
  | [a, b] => if isName a = false then (p, rowS) else if positiveIn b = none ∧ b ≠ [45] then (p, rowS) else if p.kinds.any (fun q => decide (q.1 = a)) = true then (p, twiceS) else ({ p with kinds := p.kinds ++ [(a, positiveIn b)] }, [])
  | _ => (p, rowS)
theorem kindRow_2 (p : PlD) (a b : List Nat) : kindRow p [a, b] = if isName a = false then (p, rowS) else if positiveIn b = none ∧ b ≠ [45] then (p, rowS) else if p.kinds.any (fun q => decide (q.1 = a)) = true then (p, twiceS) else ({ p with kinds := p.kinds ++ [(a, positiveIn b)] }, []) := rfl
def S_kind_row (C : Addr) : SpS := fun ts P _ => ∃ p ws, ts = [plT C p, .fr (.lst (ws.map .str))] ∧ p.kinds.length < sizeLine ∧ P (.fr (.str (kindRow p ws).2)) [some (plT C (kindRow p ws).1), none]
def gateRow (p : PlD) : List (List Nat) → PlD × List Nat
  | [a] => if isName a = false then (p, rowS) else if hasPlace p a = true then (p, twiceS) else ({ p with gates := p.gates ++ [a] }, [])
  | _ => (p, rowS)
theorem gateRow_1 (p : PlD) (a : List Nat) : gateRow p [a] = if isName a = false then (p, rowS) else if hasPlace p a = true then (p, twiceS) else ({ p with gates := p.gates ++ [a] }, []) := rfl
def S_gate_row (C : Addr) : SpS := fun ts P _ => ∃ p ws, ts = [plT C p, .fr (.lst (ws.map .str))] ∧ p.gates.length < sizeLine ∧ P (.fr (.str (gateRow p ws).2)) [some (plT C (gateRow p ws).1), none]
theorem give_pl (C : Addr) (p p' : PlD) (d : D) (o : Option T) (r : Rho) : give [plT C p, .fr d] (some (plT C p') :: o :: r) = [some (plT C p'), none] := by
  simp [give, plT, T.mine]
theorem ownk_hours (p : PlD) : T.ownk (hoursK p) = true := by
  unfold hoursK
  induction p.hours with
  | nil => rfl
  | cons q qs ih =>
    show (T.own (.lst true (q.2.map fun h => .fr (hourD h))) && T.ownk (qs.map _)) = true
    rw [ih, Bool.and_true]
    have : (q.2.map fun h => T.fr (hourD h)) = (q.2.map hourD).map .fr := by rw [List.map_map]; rfl
    rw [this]; exact own_lst _
theorem ownt_fr (kvs : List (List KY × D)) : T.ownt (frK kvs) = true := by
  induction kvs with
  | nil => rfl
  | cons d ds ih => show (T.own (.fr d.2) && T.ownt (frK ds)) = true; rw [ih]; rfl
theorem own_pl (C : Addr) (p : PlD) : (plT C p).own = true := by
  have h1 : T.owns (p.gates.map fun g => .fr (.str g)) = true := by
    have : (p.gates.map fun g => T.fr (.str g)) = (p.gates.map D.str).map .fr := by rw [List.map_map]; rfl
    rw [this]; exact owns_fr _
  unfold plT fieldsT
  simp only [T.own, T.ownf, ownk_fr, ownt_fr, owns_fr, ownk_hours, h1, Bool.and_true]
theorem end_pl (C : Addr) (p p' : PlD) (d : D) (o : Option T) (r : Rho) (Q : T → Rho → Prop) (t : T) : (ownO (give [plT C p, .fr d] (some (plT C p') :: o :: r)) = true ∧ Q t (give [plT C p, .fr d] (some (plT C p') :: o :: r))) = Q t [some (plT C p'), none] := by
  rw [give_pl]
  simp [ownO, own_pl]
theorem insE_pl (C : Addr) (p : PlD) (P : Bool → Addr → List (Str × T) → Prop) : insE (some (plT C p)) P = P true C (fieldsT p) := rfl
theorem get_kinds (C : Addr) (p : PlD) : T.get (.fld "kinds") (plT C p) = some (.dk true (frK (kindsK p))) := rfl
theorem get_gates (C : Addr) (p : PlD) : T.get (.fld "gates") (plT C p) = some (.lst true (p.gates.map fun g => .fr (.str g))) := rfl
theorem get_paces (C : Addr) (p : PlD) : T.get (.fld "paces") (plT C p) = some (.dk true (frK (pacesK p))) := rfl
theorem upd_kinds (C : Addr) (p : PlD) (t : T) : T.upd [.fld "kinds"] (plT C p) t = .ins true C (setK "kinds" t (fieldsT p)) := rfl
theorem upd_gates (C : Addr) (p : PlD) (t : T) : T.upd [.fld "gates"] (plT C p) t = .ins true C (setK "gates" t (fieldsT p)) := rfl
theorem upd_paces (C : Addr) (p : PlD) (t : T) : T.upd [.fld "paces"] (plT C p) t = .ins true C (setK "paces" t (fieldsT p)) := rfl
theorem set_gates (C : Addr) (p : PlD) (g : List Nat) : T.ins true C (setK "gates" (.lst true ((p.gates.map fun g => .fr (.str g)) ++ [.fr (.str g)])) (fieldsT p)) = plT C { p with gates := p.gates ++ [g] } := by
  unfold plT fieldsT
  simp only [List.map_append, List.map_cons, List.map_nil]
  rfl
theorem frK_app {κ : Type} (a b : List (κ × D)) : frK (a ++ b) = frK a ++ frK b := by simp [frK]
theorem set_kinds (C : Addr) (p : PlD) (a : List Nat) (k : Option Int) : T.ins true C (setK "kinds" (.dk true (frK (kindsK p) ++ [(.inr a, .fr (optD k))])) (fieldsT p)) = plT C { p with kinds := p.kinds ++ [(a, k)] } := by
  unfold plT fieldsT kindsK
  simp only [List.map_append, List.map_cons, List.map_nil, frK_app]
  rfl
theorem set_paces (C : Addr) (p : PlD) (a : List Nat) (q : List Nat × Int × Int) : T.ins true C (setK "paces" (.dk true (frK (pacesK p) ++ [(.inr a, .fr (paceD q))])) (fieldsT p)) = plT C { p with paces := p.paces ++ [(a, q)] } := by
  unfold plT fieldsT pacesK
  simp only [List.map_append, List.map_cons, List.map_nil, frK_app]
  rfl
theorem getK_frK {κ α : Type} [DecidableEq κ] (f : α → κ) (g : α → D) (xs : List α) (k : κ) : getK (frK (xs.map fun x => (f x, g x))) k = (xs.find? fun x => decide (f x = k)).map fun x => .fr (g x) := by
  induction xs with
  | nil => rfl
  | cons x xs ih =>
    by_cases e : f x = k
    · simp [frK, getK, List.find?, e]
    · have : getK (frK (List.map (fun x => (f x, g x)) (x :: xs))) k = getK (frK (xs.map fun x => (f x, g x))) k := by simp [frK, getK, List.find?, e]
      rw [this, ih]
      simp [List.find?, e]
theorem idxK_frK {κ α : Type} [DecidableEq κ] (f : α → κ) (g : α → D) (xs : List α) (k : κ) (h : xs.any (fun x => decide (f x = k)) = false) : idxK k (frK (xs.map fun x => (f x, g x))) = none := by
  refine idxK_none k _ ?_
  rw [getK_frK]
  have : xs.find? (fun x => decide (f x = k)) = none := by
    rw [List.find?_eq_none]
    intro x hx z
    rw [List.any_eq_false] at h
    exact h x hx z
  rw [this]; rfl
/-- what the lent plant shows -/
theorem lend_ins (C : Addr) (fs : List (Str × T)) : (T.ins true C fs).lend = .ins false C (T.lendf fs) := by rw [T.lend]
theorem getK_lendf (fs : List (Str × T)) (f : Str) : getK (T.lendf fs) f = (getK fs f).map T.lend := by
  induction fs with
  | nil => unfold T.lendf; rfl
  | cons q fs ih =>
    obtain ⟨k, t⟩ := q
    rw [T.lendf]
    by_cases e : k = f
    · simp [getK, e]
    · have h1 : getK ((k, t.lend) :: T.lendf fs) f = getK (T.lendf fs) f := by simp [getK, List.find?, e]
      have h2 : getK ((k, t) :: fs) f = getK fs f := by simp [getK, List.find?, e]
      rw [h1, h2, ih]
theorem oFld_lend (C : Addr) (f : Str) (p : PlD) (P : T → Prop) : oFld C f (plT C p).lend P = optP (getK (fieldsT p) f) fun t => P t.lend := by
  unfold plT
  rw [lend_ins, oFld_own, getK_lendf]
  cases getK (fieldsT p) f with
  | none => simp; rfl
  | some t => simp; rfl
theorem lend_lst (m : Bool) (ds : List D) : (T.lst m (ds.map .fr)).lend = .lst false (ds.map .fr) := by rw [T.lend, lends_fr]
theorem lendk_fr (kvs : List (KY × D)) : T.lendk (frK kvs) = frK kvs := by
  induction kvs with
  | nil => unfold frK T.lendk; rfl
  | cons d ds ih => show T.lendk ((d.1, .fr d.2) :: frK ds) = _; rw [T.lendk, ih, T.lend]; rfl
theorem lend_dk (m : Bool) (kvs : List (KY × D)) : (T.dk m (frK kvs)).lend = .dk false (frK kvs) := by rw [T.lend, lendk_fr]
theorem oIn_dkT (l : List Nat) (m : Bool) (kvs : List (KY × T)) (P : T → Prop) : oIn (.fr (.str l)) (.dk m kvs) P = P (.fr (.bl (getK kvs (.inr l)).isSome)) := by
  show (match oInB (.fr (.str l)) (.dk m kvs) with | some b => P (.fr (.bl b)) | none => False) = _
  rw [show oInB (.fr (.str l)) (.dk m kvs) = some (getK kvs (.inr l)).isSome from by
    cases l with
    | nil => rfl
    | cons c l => cases l <;> rfl]
theorem some_frK {α : Type} (f : α → List Nat) (g : α → D) (xs : List α) (k : List Nat) : (getK (frK (xs.map fun x => ((.inr (f x) : KY), g x))) (.inr k)).isSome = xs.any fun x => decide (f x = k) := by
  rw [getK_frK (fun x => (.inr (f x) : KY)) g xs (.inr k), Option.isSome_map]
  induction xs with
  | nil => rfl
  | cons x xs ih =>
    by_cases e : f x = k
    · simp [List.find?, e]
    · simp only [List.find?, List.any_cons, Sum.inr.injEq, e, decide_false, Bool.false_or] at ih ⊢; exact ih
theorem has_kinds (p : PlD) (a : List Nat) : (getK (frK (kindsK p)) (.inr a)).isSome = p.kinds.any fun q => decide (q.1 = a) := some_frK _ _ _ _
theorem has_lines (p : PlD) (a : List Nat) : (getK (frK (linesK p)) (.inr a)).isSome = p.lines.any fun q => decide (q.1 = a) := some_frK _ _ _ _
theorem has_paces (p : PlD) (a : List Nat) : (getK (frK (pacesK p)) (.inr a)).isSome = p.paces.any fun q => decide (q.1 = a) := some_frK _ _ _ _
theorem flat_strs (gs : List (List Nat)) : (gs.map D.str).all flatD = true := by
  induction gs with
  | nil => rfl
  | cons g gs ih => rw [List.map_cons, List.all_cons, ih]; rfl
theorem any_strs (gs : List (List Nat)) (a : List Nat) : ((gs.map D.str).any fun e => eqD e (.str a)) = gs.any fun g => decide (g = a) := by
  rw [List.any_map]
  congr 1; funext g
  exact eqD_str g a
theorem gates_fr (gs : List (List Nat)) : (gs.map fun g => T.fr (.str g)) = (gs.map D.str).map .fr := by rw [List.map_map]; rfl
theorem oIn_gates (a : List Nat) (gs : List (List Nat)) (P : T → Prop) : oIn (.fr (.str a)) (T.lst true (gs.map fun g => T.fr (.str g))).lend P = P (.fr (.bl (gs.any fun g => decide (g = a)))) := by
  rw [gates_fr, lend_lst, oIn_own, any_strs]
  simp [flat_strs, flatD]
theorem oIn_gatesO (m : Bool) (a : List Nat) (gs : List (List Nat)) (P : T → Prop) : oIn (.fr (.str a)) (T.lst m (gs.map fun g => T.fr (.str g))) P = P (.fr (.bl (gs.any fun g => decide (g = a)))) := by
  rw [gates_fr, oIn_own, any_strs]
  simp [flat_strs, flatD]
theorem oFld_pl (C : Addr) (f : Str) (p : PlD) (P : T → Prop) : oFld C f (plT C p) P = optP (getK (fieldsT p) f) P := by
  unfold plT
  rw [oFld_own]
  simp
theorem mine_dk (m : Bool) (kvs : List (KY × T)) : (T.dk m kvs).mine = m := rfl
local macro_rules | `(tactic| walk_at "pl") => `(tactic| simp only [end_pl, insE_pl, get_kinds, get_gates, get_paces, upd_kinds, upd_gates, upd_paces, f_kinds, f_gates, f_lines, f_paces, oFld_lend, optP_some, lend_dk, oFld_pl, mine_dk, oIn_dkT, oIn_gates, oIn_gatesO, has_kinds, has_lines, has_paces, asB_bl, asD_fr, if_true, true_and, List.length_cons, List.length_nil, List.map_cons, List.map_nil, Option.isSome_some, Option.bind_some, Nat.reduceAdd, List.length_map, Bool.not_true, Bool.not_false, Bool.false_eq_true, if_false, if_true])
def paceRow (p : PlD) : List (List Nat) → PlD × List Nat
  | [g, k, x, y] => if isName g = false then (p, rowS) else if isName k = false then (p, rowS) else match numbersIn [x, y] with
    | some [b, a] =>
      let f := firstDue (p.paces.any fun q => decide (q.1 = g)) (!(p.gates.any fun z => decide (z = g)) || !(p.kinds.any fun q => decide (q.1 = k))) false
      if f = [] then ({ p with paces := p.paces ++ [(g, k, b, a)] }, f) else (p, f)
    | _ => (p, rowS)
  | _ => (p, rowS)
def S_pace_row (C : Addr) : SpS := fun ts P _ => ∃ p ws, ts = [plT C p, .fr (.lst (ws.map .str))] ∧ p.paces.length < sizeLine ∧ P (.fr (.str (paceRow p ws).2)) [some (plT C (paceRow p ws).1), none]
theorem paceRow_4 (p : PlD) (g k x y : List Nat) : paceRow p [g, k, x, y] = if isName g = false then (p, rowS) else if isName k = false then (p, rowS) else match numbersIn [x, y] with
    | some [b, a] =>
      let f := firstDue (p.paces.any fun q => decide (q.1 = g)) (!(p.gates.any fun z => decide (z = g)) || !(p.kinds.any fun q => decide (q.1 = k))) false
      if f = [] then ({ p with paces := p.paces ++ [(g, k, b, a)] }, f) else (p, f)
    | _ => (p, rowS) := rfl
theorem numbersIn_2 (x y : List Nat) : numbersIn [x, y] = match positiveIn x, positiveIn y with
    | some b, some a => some [b, a]
    | _, _ => none := by
  unfold numbersIn
  cases hx : positiveIn x <;> cases hy : positiveIn y <;> simp [hx, hy]
theorem oNotIn_gatesO (m : Bool) (a : List Nat) (gs : List (List Nat)) (P : T → Prop) : oNotIn (.fr (.str a)) (T.lst m (gs.map fun g => T.fr (.str g))) P = P (.fr (.bl (!gs.any fun g => decide (g = a)))) := by
  rw [gates_fr, oNotIn_own, any_strs]
  simp [flat_strs, flatD]
theorem oNotIn_dkT (l : List Nat) (m : Bool) (kvs : List (KY × T)) (P : T → Prop) : oNotIn (.fr (.str l)) (.dk m kvs) P = P (.fr (.bl (!(getK kvs (.inr l)).isSome))) := by
  show (match oInB (.fr (.str l)) (.dk m kvs) with | some b => P (.fr (.bl (!b))) | none => False) = _
  rw [show oInB (.fr (.str l)) (.dk m kvs) = some (getK kvs (.inr l)).isSome from by
    cases l with
    | nil => rfl
    | cons c l => cases l <;> rfl]
theorem lend_fr (d : D) : (T.fr d).lend = .fr d := by rw [T.lend]
theorem first_due_s (a b c : Bool) (P : D → Prop) (h : P (.str (firstDue a b c))) : S_first_due [.fr (.bl a), .fr (.bl b), .fr (.bl c)] P := ⟨a, b, c, rfl, h⟩
theorem firstDue_nil (a b c : Bool) (h : firstDue a b c = []) : a = false ∧ b = false ∧ c = false := by
  cases a <;> cases b <;> cases c <;> first | exact ⟨rfl, rfl, rfl⟩ | (simp only [firstDue, k_twice, k_name, k_room, if_true, if_false, Bool.false_eq_true] at h; cases h)
theorem put_paces (p : PlD) (g : List Nat) (x : T) (h : (p.paces.any fun q => decide (q.1 = g)) = false) : putT (.inr g) x (frK (pacesK p)) = frK (pacesK p) ++ [(.inr g, x)] := by
  refine putT_none ?_
  unfold pacesK
  exact idxK_frK (fun q : List Nat × (List Nat × Int × Int) => (.inr q.1 : KY)) (fun q => paceD q.2) p.paces (.inr g) (by simpa using h)

theorem fn_has_place {C : Addr} (A : At K mg "has_place" "has_place" s_has_place) (B : Bl mg) (KS : Ks K mg C) : Fn P w K mg base "has_place" 1 2 (0) (S_has_place C) := by
  have sc : FnScope ["plant", "name"] ["plant", "name"] (defScope s_has_place) := ⟨rfl, rfl, rfl, by decide +kernel, rfl, by decide +kernel, by decide +kernel⟩
  have nd := sc.nd
  refine Fn.of (k := 0) A sc (fun _ _ _ _ _ _ us hl => match us, hl with | [_, _], _ => rfl) rfl ?hc (fun f cdv A outer s H E hr =>
      (wss_one (ws_ret (we_or (we_cmp (op_inV (hu_of hr)) l_in (we_var (pv 1)) (we_fld (we_var (pv 0)) KS.c_Plant KS.n_Plant_gates) rfl) (we_one (we_cmp (op_inV (hu_of hr)) l_in (we_var (pv 1)) (we_fld (we_var (pv 0)) KS.c_Plant KS.n_Plant_lines) rfl)))))) ?hs
  case hc => walk_at "cst"
  case hs =>
    intro ts Q hl h
    obtain ⟨p, n, rfl, h⟩ := h
    walk_at "ev"
    walk_at "pl"
    unfold hasPlace at h
    by_cases e : (p.gates.any fun g => decide (g = n)) = true
    · rw [if_pos e]; rw [e] at h; exact h
    · rw [if_neg e]; rw [Bool.not_eq_true] at e; rw [e] at h; exact h

theorem fn_first_due (A : At K mg "first_due" "first_due" s_first_due) (B : Bl mg) : Fn P w K mg base "first_due" 1 3 (0) S_first_due := by
  have sc : FnScope ["twice", "lacks", "room"] ["twice", "lacks", "room"] (defScope s_first_due) := ⟨rfl, rfl, rfl, by decide +kernel, rfl, by decide +kernel, by decide +kernel⟩
  have nd := sc.nd
  refine Fn.of (k := 0) A sc (fun _ _ _ _ _ _ us hl => match us, hl with | [_, _, _], _ => rfl) rfl ?hc (fun f cdv A outer s H E hr =>
      (wss_cons (ws_if (wt_val (we_var (pv 0))) (wss_one (ws_ret we_str)) wss_nil)
      (wss_cons (ws_if (wt_val (we_var (pv 1))) (wss_one (ws_ret we_str)) wss_nil)
      (wss_cons (ws_if (wt_val (we_var (pv 2))) (wss_one (ws_ret we_str)) wss_nil)
      (wss_one (ws_ret we_str)))))) ?hs
  case hc => walk_at "cst"
  case hs =>
    intro ts Q hl h
    obtain ⟨a, b, c, rfl, h⟩ := h
    walk_at "ev"
    unfold firstDue at h
    simp only [k_empty]
    cases a <;> cases b <;> cases c <;> exact h

theorem fn_kind_row {C : Addr} (A : At K mg "kind_row" "kind_row" s_kind_row) (B : Bl mg) (KS : Ks K mg C) (F_positive_in : Fn P w K mg base "positive_in" 2 1 (0) S_positive_in) (F_is_name : Fn P w K mg base "is_name" 1 1 (0) S_is_name) : FnM P w K mg base "kind_row" 3 2 (0) (S_kind_row C) := by
  have sc : FnScope ["plant", "words", "keep"] ["plant", "words"] (defScope s_kind_row) := ⟨rfl, rfl, rfl, by decide +kernel, rfl, by decide +kernel, by decide +kernel⟩
  have nd := sc.nd
  refine FnM.of2 (k := 2) A sc (fun _ _ _ _ _ _ us hl => match us, hl with | [_, _], _ => rfl) rfl ?hc (fun f cdv A outer s H E hr tk =>
      (wss_cons (ws_if (wt_ww (ww_or (wt_cmp (op_neD hr.units) l_ne (we_callB call_lenV l_len rfl B.len (by decide +kernel) (wa_cons (we_var (pv 1)) wa_nil)) we_int (nomark _)) (ww_one (wt_not (wt_val (we_fn F_is_name hr (by decide) rfl (wa_cons (we_ix (ix_V (hu_of hr)) l_ix (we_var (pv 1)) we_int (fun _ _ => rfl)) wa_nil)))) (.inr rfl)))) (wss_one (ws_ret we_str)) wss_nil)
      (wss_cons (ws_set (i := 2) nd rfl (Or.inl rfl) (we_fn F_positive_in hr (by decide) rfl (wa_cons (we_ix (ix_V (hu_of hr)) l_ix (we_var (pv 1)) we_int (fun _ _ => rfl)) wa_nil)))
      (wss_cons (ws_if (wt_ww (ww_and (wt_cmp op_isN l_isN (we_var (pv 2)) we_non (nomark _)) (ww_one (wt_cmp (op_neD hr.units) l_ne (we_ix (ix_V (hu_of hr)) l_ix (we_var (pv 1)) we_int (fun _ _ => rfl)) we_str (nomark _)) (.inl rfl)))) (wss_one (ws_ret we_str)) wss_nil)
      (wss_cons (ws_if (wt_cmp (op_inV (hu_of hr)) l_in (we_ix (ix_V (hu_of hr)) l_ix (we_var (pv 1)) we_int (fun _ _ => rfl)) (we_fld (we_var (pv 0)) KS.c_Plant KS.n_Plant_kinds) rfl) (wss_one (ws_ret we_str)) wss_nil)
      (wss_cons (ws_putP (hu_of hr) (wk_we (we_var (pv 2))) (wp_fld (wp_var (pv 0)) KS.c_Plant KS.n_Plant_kinds) (we_ix (ix_V (hu_of hr)) l_ix (we_var (pv 1)) we_int (fun _ _ => rfl)))
      (wss_one (ws_ret we_str)))))))) ?hs
  case hc => walk_at "cst"
  case hs =>
    intro ts Q R hl h
    obtain ⟨p, ws, rfl, h1, h⟩ := h
    walk_at "ev"
    rcases ws with _ | ⟨a, _ | ⟨b, _ | ⟨c, ws⟩⟩⟩
    · walk_at "pl"; exact h
    · walk_at "pl"; exact h
    · walk_at "pl"
      rw [if_neg (by simp)]
      refine ⟨a, rfl, ?_⟩
      walk_at "pl"
      rw [kindRow_2] at h
      by_cases e : isName a = true
      · rw [if_neg (by rw [e]; exact Bool.false_ne_true)]
        rw [if_neg (by rw [e]; exact fun z => nomatch z)] at h
        refine ⟨b, rfl, ?_⟩
        have tail : ∀ k : Option Int, positiveIn b = k → (k = none → b = [45]) → oIn (T.fr (D.str a)) (T.dk true (frK (kindsK p)))
                  (asB fun z =>
                    if z = true then Q (T.fr (D.str (tl ("twice" : Str)))) [some (plT C p), none]
                    else optP (atI [D.str a, D.str b] 0) fun d_3 => optP (T.at [] (T.dk true (frK (kindsK p)))) fun t0 =>
                          t0.mine = true ∧ optP (TL.putAt t0 (T.fr d_3) (T.fr (optD k))) fun t0' => roomy t0 ∧
                                ownO (give [plT C p, T.fr (D.lst [D.str a, D.str b])] [some (T.ins true C (setK ("kinds" : Str) t0' (fieldsT p))), some (T.fr (D.lst [D.str a, D.str b])), some (T.fr (optD k))]) = true ∧
                                  Q (T.fr (D.str (tl ("" : Str)))) (give [plT C p, T.fr (D.lst [D.str a, D.str b])] [some (T.ins true C (setK ("kinds" : Str) t0' (fieldsT p))), some (T.fr (D.lst [D.str a, D.str b])), some (T.fr (optD k))])) := by
          intro k hk hb
          walk_at "pl"
          rw [hk, if_neg (fun z => z.2 (hb z.1))] at h
          by_cases e2 : (p.kinds.any fun q => decide (q.1 = a)) = true
          · rw [if_pos e2] at h ⊢; exact h
          · rw [if_neg e2] at h ⊢
            walk_at "ev"
            walk_at "pl"
            rw [putT_none (by rw [Bool.not_eq_true] at e2; exact idxK_frK _ _ _ _ (by simpa using e2))]
            refine ⟨?_, ?_⟩
            · show (frK (kindsK p)).length < sizeLine
              simpa [frK, kindsK] using h1
            · rw [set_kinds]
              walk_at "pl"
              exact h
        cases hb : positiveIn b with
        | none =>
          simp only [optD]
          walk_at "ev"
          simp only [k__45_]
          by_cases e3 : b = [45]
          · have := tail none hb (fun _ => e3)
            simp only [optD] at this
            simp only [e3, decide_true, Bool.not_true, Bool.false_eq_true, if_false] at this ⊢
            exact this
          · simp only [e3, decide_false, Bool.not_false, if_true]
            rw [hb, if_pos ⟨rfl, e3⟩] at h
            exact h
        | some i =>
          have := tail (some i) hb (fun z => nomatch z)
          simp only [optD] at this ⊢
          walk_at "ev"
          exact this
      · rw [Bool.not_eq_true] at e
        rw [if_pos (by rw [e]; rfl)]
        rw [if_pos e] at h
        exact h
    · walk_at "pl"
      rw [if_pos (by simp; omega)]
      exact h

theorem fn_gate_row {C : Addr} (A : At K mg "gate_row" "gate_row" s_gate_row) (B : Bl mg) (KS : Ks K mg C) (F_has_place : Fn P w K mg base "has_place" 1 2 (0) (S_has_place C)) (F_is_name : Fn P w K mg base "is_name" 1 1 (0) S_is_name) : FnM P w K mg base "gate_row" 2 2 (0) (S_gate_row C) := by
  have sc : FnScope ["plant", "words"] ["plant", "words"] (defScope s_gate_row) := ⟨rfl, rfl, rfl, by decide +kernel, rfl, by decide +kernel, by decide +kernel⟩
  have nd := sc.nd
  refine FnM.of2 (k := 1) A sc (fun _ _ _ _ _ _ us hl => match us, hl with | [_, _], _ => rfl) rfl ?hc (fun f cdv A outer s H E hr tk =>
      (wss_cons (ws_if (wt_ww (ww_or (wt_cmp (op_neD hr.units) l_ne (we_callB call_lenV l_len rfl B.len (by decide +kernel) (wa_cons (we_var (pv 1)) wa_nil)) we_int (nomark _)) (ww_one (wt_not (wt_val (we_fn F_is_name hr (by decide) rfl (wa_cons (we_ix (ix_V (hu_of hr)) l_ix (we_var (pv 1)) we_int (fun _ _ => rfl)) wa_nil)))) (.inr rfl)))) (wss_one (ws_ret we_str)) wss_nil)
      (wss_cons (ws_if (wt_val (we_fn F_has_place hr (by decide) rfl (wa_cons (we_var (pv 0)) (wa_cons (we_ix (ix_V (hu_of hr)) l_ix (we_var (pv 1)) we_int (fun _ _ => rfl)) wa_nil)))) (wss_one (ws_ret we_str)) wss_nil)
      (wss_cons (ws_appP (wp_fld (wp_var (pv 0)) KS.c_Plant KS.n_Plant_gates) (wk_we (we_ix (ix_V (hu_of hr)) l_ix (we_var (pv 1)) we_int (fun _ _ => rfl))))
      (wss_one (ws_ret we_str)))))) ?hs
  case hc => walk_at "cst"
  case hs =>
    intro ts Q R hl h
    obtain ⟨p, ws, rfl, h1, h⟩ := h
    walk_at "ev"
    rcases ws with _ | ⟨a, _ | ⟨b, ws⟩⟩
    · walk_at "pl"; exact h
    · walk_at "pl"
      rw [if_neg (by simp)]
      refine ⟨a, rfl, ?_⟩
      walk_at "pl"
      rw [gateRow_1] at h
      by_cases e : isName a = true
      · rw [if_neg (by rw [e]; exact Bool.false_ne_true)]
        rw [if_neg (by rw [e]; exact fun z => nomatch z)] at h
        walk_at "ev"
        refine ⟨p, a, rfl, ?_⟩
        walk_at "pl"
        by_cases e2 : hasPlace p a = true
        · rw [if_pos e2] at h ⊢; exact h
        · rw [if_neg e2] at h ⊢
          refine ⟨h1, ?_⟩
          rw [set_gates]
          walk_at "pl"
          exact h
      · rw [Bool.not_eq_true] at e
        rw [if_pos (by rw [e]; rfl)]
        rw [if_pos e] at h
        exact h
    · walk_at "pl"
      rw [if_pos (by simp; omega)]
      exact h

theorem fn_pace_row {C : Addr} (A : At K mg "pace_row" "pace_row" s_pace_row) (B : Bl mg) (KS : Ks K mg C) (F_first_due : Fn P w K mg base "first_due" 1 3 (0) S_first_due) (F_numbers_in : Fn P w K mg base "numbers_in" 3 1 (0) S_numbers_in) (F_is_name : Fn P w K mg base "is_name" 1 1 (0) S_is_name) : FnM P w K mg base "pace_row" 4 2 (0) (S_pace_row C) := by
  have sc : FnScope ["plant", "words", "numbers", "lacks", "fault"] ["plant", "words"] (defScope s_pace_row) := ⟨rfl, rfl, rfl, by decide +kernel, rfl, by decide +kernel, by decide +kernel⟩
  have nd := sc.nd
  refine FnM.of2 (k := 3) A sc (fun _ _ _ _ _ _ us hl => match us, hl with | [_, _], _ => rfl) rfl ?hc (fun f cdv A outer s H E hr tk =>
      (wss_cons (ws_if (wt_ww (ww_or (wt_cmp (op_neD hr.units) l_ne (we_callB call_lenV l_len rfl B.len (by decide +kernel) (wa_cons (we_var (pv 1)) wa_nil)) we_int (nomark _)) (ww_or (wt_not (wt_val (we_fn F_is_name hr (by decide) rfl (wa_cons (we_ix (ix_V (hu_of hr)) l_ix (we_var (pv 1)) we_int (fun _ _ => rfl)) wa_nil)))) (ww_one (wt_not (wt_val (we_fn F_is_name hr (by decide) rfl (wa_cons (we_ix (ix_V (hu_of hr)) l_ix (we_var (pv 1)) we_int (fun _ _ => rfl)) wa_nil)))) (.inr rfl))))) (wss_one (ws_ret we_str)) wss_nil)
      (wss_cons (ws_set (i := 2) nd rfl (Or.inl rfl) (we_fn F_numbers_in hr (by decide) rfl (wa_cons (we_sl (we_var (pv 1)) (wo_some we_int) wo_none) wa_nil)))
      (wss_cons (ws_if (wt_cmp op_isN l_isN (we_var (pv 2)) we_non (nomark _)) (wss_one (ws_ret we_str)) wss_nil)
      (wss_cons (ws_set (i := 3) nd rfl (Or.inl rfl) (we_or (we_cmp (op_notInV (hu_of hr)) l_notIn (we_ix (ix_V (hu_of hr)) l_ix (we_var (pv 1)) we_int (fun _ _ => rfl)) (we_fld (we_var (pv 0)) KS.c_Plant KS.n_Plant_gates) rfl) (we_one (we_cmp (op_notInV (hu_of hr)) l_notIn (we_ix (ix_V (hu_of hr)) l_ix (we_var (pv 1)) we_int (fun _ _ => rfl)) (we_fld (we_var (pv 0)) KS.c_Plant KS.n_Plant_kinds) rfl))))
      (wss_cons (ws_set (i := 4) nd rfl (Or.inl rfl) (we_fn F_first_due hr (by decide) rfl (wa_cons (we_cmp (op_inV (hu_of hr)) l_in (we_ix (ix_V (hu_of hr)) l_ix (we_var (pv 1)) we_int (fun _ _ => rfl)) (we_fld (we_var (pv 0)) KS.c_Plant KS.n_Plant_paces) rfl) (wa_cons (we_var (pv 3)) (wa_cons we_bl wa_nil)))))
      (wss_cons (ws_if (wt_cmp (op_eqD hr.units) l_eq (we_var (pv 4)) we_str (nomark _)) (wss_one (ws_putP (hu_of hr) (wk_we (we_tup (wa_cons (we_ix (ix_V (hu_of hr)) l_ix (we_var (pv 1)) we_int (fun _ _ => rfl)) (wa_cons (we_ix (ix_V (hu_of hr)) l_ix (we_var (pv 2)) we_int (fun _ _ => rfl)) (wa_cons (we_ix (ix_V (hu_of hr)) l_ix (we_var (pv 2)) we_int (fun _ _ => rfl)) wa_nil))))) (wp_fld (wp_var (pv 0)) KS.c_Plant KS.n_Plant_paces) (we_ix (ix_V (hu_of hr)) l_ix (we_var (pv 1)) we_int (fun _ _ => rfl)))) wss_nil)
      (wss_one (ws_ret (we_var (pv 4))))))))))) ?hs
  case hc => walk_at "cst"
  case hs =>
    intro ts Q R hl h
    obtain ⟨p, ws, rfl, h1, h⟩ := h
    walk_at "ev"
    rcases ws with _ | ⟨g, _ | ⟨k, _ | ⟨x, _ | ⟨y, _ | ⟨z, ws⟩⟩⟩⟩⟩
    · walk_at "pl"; exact h
    · walk_at "pl"; exact h
    · walk_at "pl"; exact h
    · walk_at "pl"; exact h
    · walk_at "pl"
      rw [if_neg (by simp)]
      rw [paceRow_4] at h
      refine ⟨g, rfl, ?_⟩
      walk_at "pl"
      by_cases e : isName g = true
      · rw [if_neg (by rw [e]; exact Bool.false_ne_true)]
        rw [if_neg (by rw [e]; exact fun z => nomatch z)] at h
        refine ⟨k, rfl, ?_⟩
        walk_at "pl"
        by_cases e2 : isName k = true
        · rw [if_neg (by rw [e2]; exact Bool.false_ne_true)]
          rw [if_neg (by rw [e2]; exact fun z => nomatch z)] at h
          refine ⟨[x, y], rfl, by simp, ?_⟩
          rw [numbersIn_2] at h ⊢
          cases hx : positiveIn x with
          | none => rw [hx] at h; exact h
          | some b =>
            cases hy : positiveIn y with
            | none => rw [hx, hy] at h; exact h
            | some a =>
              rw [hx, hy] at h
              simp only [List.map_cons, List.map_nil]
              rw [if_neg (by simp [TL.isNon])]
              simp only [] at h
              have fin : ∀ lk : Bool, lk = (!(p.gates.any fun z => decide (z = g)) || !(p.kinds.any fun q => decide (q.1 = k))) → ∀ o : List (Option T), S_first_due [.fr (.bl (p.paces.any fun q => decide (q.1 = g))), .fr (.bl lk), .fr (.bl false)] fun d => okP 60 d = true ∧
                  if eqD d (D.str (tl ("" : Str))) = true then
                    (frK (pacesK p)).length < sizeLine ∧ ownO (give [plT C p, T.fr (D.lst [D.str g, D.str k, D.str x, D.str y])] (some (T.ins true C (setK ("paces" : Str) (T.dk true (putT (Sum.inr g) (T.fr (D.tup [D.str k, D.int b, D.int a])) (frK (pacesK p)))) (fieldsT p))) :: some (T.fr (D.lst [D.str g, D.str k, D.str x, D.str y])) :: some (T.fr (D.lst [D.int b, D.int a])) :: some (.fr (.bl lk)) :: some (T.fr d) :: o)) = true ∧
                      Q (T.fr d) (give [plT C p, T.fr (D.lst [D.str g, D.str k, D.str x, D.str y])] (some (T.ins true C (setK ("paces" : Str) (T.dk true (putT (Sum.inr g) (T.fr (D.tup [D.str k, D.int b, D.int a])) (frK (pacesK p)))) (fieldsT p))) :: some (T.fr (D.lst [D.str g, D.str k, D.str x, D.str y])) :: some (T.fr (D.lst [D.int b, D.int a])) :: some (.fr (.bl lk)) :: some (T.fr d) :: o))
                  else Q (T.fr d) [some (plT C p), none] := by
                intro lk el o
                refine first_due_s _ _ _ _ ⟨rfl, ?_⟩
                rw [eqD_str, k_empty]
                rw [← el] at h
                by_cases f : firstDue (p.paces.any fun q => decide (q.1 = g)) lk false = []
                · rw [if_pos (by simpa using f)]
                  rw [if_pos f] at h
                  refine ⟨by simpa [frK, pacesK] using h1, ?_⟩
                  obtain ⟨f1, _, _⟩ := firstDue_nil _ _ _ f
                  rw [put_paces p g _ f1, show D.tup [D.str k, D.int b, D.int a] = paceD (k, b, a) from rfl, set_paces]
                  walk_at "pl"
                  exact h
                · rw [if_neg (by simpa using f)]
                  rw [if_neg f] at h
                  exact h
              cases hg : (p.gates.any fun z => decide (z = g)) with
              | false =>
                have f := fin true (by rw [hg]; rfl) []
                walk_at "ev"
                simp only [oNotIn_gatesO, oNotIn_dkT, lend_fr, hg, asB_bl, asD_fr, Bool.not_false, if_true]
                walk_at "pl"
                try walk_at "ev"
                exact f
              | true =>
                have f := fin (!(p.kinds.any fun q => decide (q.1 = k))) (by rw [hg]; rfl) []
                walk_at "ev"
                simp only [oNotIn_gatesO, oNotIn_dkT, lend_fr, hg, asB_bl, asD_fr, Bool.not_true, if_false, Bool.false_eq_true]
                walk_at "pl"
                walk_at "ev"
                try simp only [lend_fr]
                exact f
        · rw [Bool.not_eq_true] at e2
          rw [if_pos (by rw [e2]; rfl)]
          rw [if_pos e2] at h
          exact h
      · rw [Bool.not_eq_true] at e
        rw [if_pos (by rw [e]; rfl)]
        rw [if_pos e] at h
        exact h
    · walk_at "pl"
      rw [if_pos (by simp; omega)]
      exact h

def kindS : List Nat := tl ("kind" : Str)
def gateS : List Nat := tl ("gate" : Str)
def paceS : List Nat := tl ("pace" : Str)
def plantRow (p : PlD) (w : List Nat) (r : List (List Nat)) : Option (PlD × List Nat) := if w = kindS then some (kindRow p r) else if w = gateS then some (gateRow p r) else if w = paceS then some (paceRow p r) else none
def S_plant_row (C : Addr) : SpS := fun ts P _ => ∃ p w r q, ts = [plT C p, .fr (.lst ((w :: r).map .str))] ∧ (p.kinds.length < sizeLine ∧ p.gates.length < sizeLine ∧ p.paces.length < sizeLine) ∧ plantRow p w r = some q ∧ P (.fr (.str q.2)) [some (plT C q.1), none]
def S_Plant (C : Addr) : SpS := fun ts P _ => ts = [.ins true C []] ∧ P (.fr .non) [some (plT C {})]
def readRows : PlD → List (List Nat) → Option PlD
  | p, [] => some p
  | p, l :: ls => match wordsOf l with
    | [] => readRows p ls
    | w :: r => match plantRow p w r with
      | some (p', []) => readRows p' ls
      | _ => none
def fieldsD (p : PlD) : List (Str × D) := [("kinds", .dk (kindsK p)), ("gates", .lst (p.gates.map .str)), ("lines", .dk (linesK p)), ("desks", .lst p.desks), ("times", .dt (timesK p)), ("hours", .dk (p.hours.map fun q => (.inr q.1, .lst (q.2.map hourD)))), ("paces", .dk (pacesK p))]
def plD (C : Addr) (p : PlD) : D := .ins C (fieldsD p)
def S_read_plant (C : Addr) : List T → (D → Prop) → Prop := fun ts P => ∃ text p, ts = [.fr (.str text)] ∧ text.length + 2 ≤ sizeLine ∧ readRows {} (splitC 10 text) = some p ∧ P (plD C p)
theorem cutTail (u : D) (r : List D) : cut (u :: r) (some 1) none = r := by
  have h1 : HT.sIx (u :: r).length 0 (some 1) = 1 := by
    rw [List.length_cons]
    unfold HT.sIx
    simp
  have h2 : HT.sIx (u :: r).length (u :: r).length none = (u :: r).length := rfl
  unfold cut
  rw [h1, h2]
  simp
def fs1 : List (Str × T) := [("kinds", .dk true [])]
def fs2 : List (Str × T) := [("kinds", .dk true []), ("gates", .lst true [])]
def fs3 : List (Str × T) := [("kinds", .dk true []), ("gates", .lst true []), ("lines", .dk true [])]
def fs4 : List (Str × T) := [("kinds", .dk true []), ("gates", .lst true []), ("lines", .dk true []), ("desks", .lst true [])]
def fs5 : List (Str × T) := [("kinds", .dk true []), ("gates", .lst true []), ("lines", .dk true []), ("desks", .lst true []), ("times", .dt true [])]
def fs6 : List (Str × T) := [("kinds", .dk true []), ("gates", .lst true []), ("lines", .dk true []), ("desks", .lst true []), ("times", .dt true []), ("hours", .dk true [])]
theorem e0 : putT ("kinds" : Str) (T.dk true []) [] = fs1 := by kernel_rfl
theorem e1 : putT ("gates" : Str) (T.lst true []) fs1 = fs2 := by kernel_rfl
theorem e2 : putT ("lines" : Str) (T.dk true []) fs2 = fs3 := by kernel_rfl
theorem e3 : putT ("desks" : Str) (T.lst true []) fs3 = fs4 := by kernel_rfl
theorem e4 : putT ("times" : Str) (T.dt true []) fs4 = fs5 := by kernel_rfl
theorem e5 : putT ("hours" : Str) (T.dk true []) fs5 = fs6 := by kernel_rfl
theorem e6 : putT ("paces" : Str) (T.dk true []) fs6 = fieldsT {} := by kernel_rfl
theorem splitC_len (c : Nat) : ∀ l : List Nat, (splitC c l).length ≤ l.length + 1
  | [] => by simp [splitC]
  | d :: l => by
    have ih := splitC_len c l
    unfold splitC
    by_cases e : d = c
    · rw [if_pos e]; simp only [List.length_cons]; omega
    · rw [if_neg e]
      cases h : splitC c l with
      | nil => exact absurd h (splitC_ne c l)
      | cons p ps => rw [h] at ih; simp only [List.length_cons] at ih ⊢; omega
theorem plantRow_len (p : PlD) (w : List Nat) (r : List (List Nat)) (p' : PlD) (f : List Nat) (h : plantRow p w r = some (p', f)) : p'.kinds.length ≤ p.kinds.length + 1 ∧ p'.gates.length ≤ p.gates.length + 1 ∧ p'.paces.length ≤ p.paces.length + 1 := by
  have hk : ∀ r, (kindRow p r).1.kinds.length ≤ p.kinds.length + 1 ∧ (kindRow p r).1.gates.length ≤ p.gates.length + 1 ∧ (kindRow p r).1.paces.length ≤ p.paces.length + 1 := by
    intro r
    unfold kindRow
    repeat' split
    all_goals first | exact ⟨Nat.le_succ _, Nat.le_succ _, Nat.le_succ _⟩ | (simp)
  have hg : ∀ r, (gateRow p r).1.kinds.length ≤ p.kinds.length + 1 ∧ (gateRow p r).1.gates.length ≤ p.gates.length + 1 ∧ (gateRow p r).1.paces.length ≤ p.paces.length + 1 := by
    intro r
    unfold gateRow
    repeat' split
    all_goals first | exact ⟨Nat.le_succ _, Nat.le_succ _, Nat.le_succ _⟩ | (simp)
  have hp : ∀ r, (paceRow p r).1.kinds.length ≤ p.kinds.length + 1 ∧ (paceRow p r).1.gates.length ≤ p.gates.length + 1 ∧ (paceRow p r).1.paces.length ≤ p.paces.length + 1 := by
    intro r
    unfold paceRow
    repeat' split
    all_goals first | exact ⟨Nat.le_succ _, Nat.le_succ _, Nat.le_succ _⟩ | (simp only []; split <;> simp) | (simp)
  unfold plantRow at h
  split at h
  · rw [show p' = (kindRow p r).1 from by rw [Option.some.inj h]]; exact hk r
  · split at h
    · rw [show p' = (gateRow p r).1 from by rw [Option.some.inj h]]; exact hg r
    · split at h
      · rw [show p' = (paceRow p r).1 from by rw [Option.some.inj h]]; exact hp r
      · cases h
theorem frzt_fr (kvs : List (List KY × D)) : T.frzt (frK kvs) = some kvs := by
  induction kvs with
  | nil => unfold T.frzt; rfl
  | cons d ds ih => show T.frzt ((d.1, .fr d.2) :: frK ds) = _; unfold T.frzt; rw [frz_fr, ih]
theorem frz_hours (p : PlD) : T.frzk (hoursK p) = some (p.hours.map fun q => (.inr q.1, .lst (q.2.map hourD))) := by
  unfold hoursK
  induction p.hours with
  | nil => rw [List.map_nil, frzk_nil]; rfl
  | cons q qs ih =>
    rw [List.map_cons, frzk_cons, ih, show (q.2.map fun h => T.fr (hourD h)) = (q.2.map hourD).map .fr from by rw [List.map_map]; rfl, frz_lst]
    rfl
theorem frz_pl (C : Addr) (p : PlD) : (plT C p).frz = some (plD C p) := by
  unfold plT fieldsT plD fieldsD
  rw [T.frz, if_pos rfl]
  simp only [T.frzf, frz_dk, gates_fr, frz_lst]
  rw [show T.frz (.dt true (frK (timesK p))) = some (.dt (timesK p)) from by rw [T.frz, if_pos rfl, frzt_fr]; rfl, show T.frz (.dk true (hoursK p)) = some (.dk (p.hours.map fun q => (.inr q.1, .lst (q.2.map hourD)))) from by rw [frz_dk', frz_hours]; rfl]
  rfl

abbrev s_Plant___init__ : Stmt := inClass (top 19) 0
theorem mk_Plant {C : Addr} (A : AtI K mg "Plant" C "Plant.__init__" s_Plant___init__) (B : Bl mg) (KS : Ks K mg C) : MkM P w K mg base "Plant" C 1 1 (0) (S_Plant C) := by
  have sc : FnScope ["self"] ["self"] (defScope s_Plant___init__) := ⟨rfl, rfl, rfl, by decide +kernel, rfl, by decide +kernel, by decide +kernel⟩
  have nd := sc.nd
  refine MkM.of2 (k := 0) A sc (fun _ _ _ _ _ _ us hl => match us, hl with | [_], _ => rfl) rfl ?hc (fun f cdv A outer s H E hr tk =>
      (wss_cons (ws_fldP wk_dk0 (wp_var (pv 0)) KS.c_Plant KS.n_Plant_kinds)
      (wss_cons (ws_fldP (wk_lst wks_nil) (wp_var (pv 0)) KS.c_Plant KS.n_Plant_gates)
      (wss_cons (ws_fldP wk_dk0 (wp_var (pv 0)) KS.c_Plant KS.n_Plant_lines)
      (wss_cons (ws_fldP (wk_lst wks_nil) (wp_var (pv 0)) KS.c_Plant KS.n_Plant_desks)
      (wss_cons (ws_fldP wk_dt0 (wp_var (pv 0)) KS.c_Plant KS.n_Plant_times)
      (wss_cons (ws_fldP wk_dk0 (wp_var (pv 0)) KS.c_Plant KS.n_Plant_hours)
      (wss_one (ws_fldP wk_dk0 (wp_var (pv 0)) KS.c_Plant KS.n_Plant_paces))))))))) ?hs
  case hc => walk_at "cst"
  case hs =>
    intro ts Q R hl h
    obtain ⟨rfl, h⟩ := h
    walk_at "ev"
    simp only [e0, e1, e2, e3, e4, e5, e6]
    simp only [fs1, fs2, fs3, fs4, fs5, fs6, List.length_cons, List.length_nil]
    refine ⟨by decide, by decide, by decide, by decide, by decide, by decide, by decide, ?_⟩
    have eg : give [T.ins true C []] [some (T.ins true C (fieldsT {}))] = [some (plT C {})] := rfl
    rw [eg]
    exact ⟨by simp [ownO, own_pl], h⟩

theorem fn_plant_row {C : Addr} (A : At K mg "plant_row" "plant_row" s_plant_row) (B : Bl mg) (KS : Ks K mg C) (F_pace_row : FnM P w K mg base "pace_row" 4 2 (0) (S_pace_row C)) (F_gate_row : FnM P w K mg base "gate_row" 2 2 (0) (S_gate_row C)) (F_kind_row : FnM P w K mg base "kind_row" 3 2 (0) (S_kind_row C)) : FnM P w K mg base "plant_row" 5 2 (0) (S_plant_row C) := by
  have sc : FnScope ["plant", "words"] ["plant", "words"] (defScope s_plant_row) := ⟨rfl, rfl, rfl, by decide +kernel, rfl, by decide +kernel, by decide +kernel⟩
  have nd := sc.nd
  refine FnM.of2 (k := 4) A sc (fun _ _ _ _ _ _ us hl => match us, hl with | [_, _], _ => rfl) rfl ?hc (fun f cdv A outer s H E hr tk =>
      (wss_cons (ws_if (wt_cmp (op_eqD hr.units) l_eq (we_ix (ix_V (hu_of hr)) l_ix (we_var (pv 1)) we_int (fun _ _ => rfl)) we_str (nomark _)) (wss_one (ws_retM (wm_call F_kind_row tk hr (by decide) rfl (wam_own (i := 0) (pv 0) (wam_val (we_sl (we_var (pv 1)) (wo_some we_int) wo_none) wam_nil))))) wss_nil)
      (wss_cons (ws_if (wt_cmp (op_eqD hr.units) l_eq (we_ix (ix_V (hu_of hr)) l_ix (we_var (pv 1)) we_int (fun _ _ => rfl)) we_str (nomark _)) (wss_one (ws_retM (wm_call F_gate_row tk hr (by decide) rfl (wam_own (i := 0) (pv 0) (wam_val (we_sl (we_var (pv 1)) (wo_some we_int) wo_none) wam_nil))))) wss_nil)
      (wss_cons (ws_if (wt_cmp (op_eqD hr.units) l_eq (we_ix (ix_V (hu_of hr)) l_ix (we_var (pv 1)) we_int (fun _ _ => rfl)) we_str (nomark _)) wss_never wss_nil)
      (wss_cons (ws_if (wt_cmp (op_eqD hr.units) l_eq (we_ix (ix_V (hu_of hr)) l_ix (we_var (pv 1)) we_int (fun _ _ => rfl)) we_str (nomark _)) wss_never wss_nil)
      (wss_cons (ws_if (wt_cmp (op_eqD hr.units) l_eq (we_ix (ix_V (hu_of hr)) l_ix (we_var (pv 1)) we_int (fun _ _ => rfl)) we_str (nomark _)) wss_never wss_nil)
      (wss_cons (ws_if (wt_cmp (op_eqD hr.units) l_eq (we_ix (ix_V (hu_of hr)) l_ix (we_var (pv 1)) we_int (fun _ _ => rfl)) we_str (nomark _)) wss_never wss_nil)
      (wss_cons (ws_if (wt_cmp (op_eqD hr.units) l_eq (we_ix (ix_V (hu_of hr)) l_ix (we_var (pv 1)) we_int (fun _ _ => rfl)) we_str (nomark _)) (wss_one (ws_retM (wm_call F_pace_row tk hr (by decide) rfl (wam_own (i := 0) (pv 0) (wam_val (we_sl (we_var (pv 1)) (wo_some we_int) wo_none) wam_nil))))) wss_nil)
      (wss_one ws_never))))))))) ?hs
  case hc => walk_at "cst"
  case hs =>
    intro ts Q R hl h
    obtain ⟨p, u, r, q, rfl, ⟨z1, z2, z3⟩, h1, h⟩ := h
    walk_at "ev"
    have own0 : ownOk [some 0, none] [some (plT C p), some (T.fr (D.lst (D.str u :: List.map D.str r)))] := ⟨rfl, trivial⟩
    have core : ∀ (S : Addr → SpS), (∀ Q' R', Q' (.fr (.str q.2)) [some (plT C q.1), none] → S C [plT C p, .fr (.lst (r.map .str))] Q' R') →
        ownOk [some 0, none] [some (plT C p), some (T.fr (D.lst (D.str u :: List.map D.str r)))] ∧
      optP (look (clear [some 0, none] [some (plT C p), some (T.fr (D.lst (D.str u :: List.map D.str r)))]) 1) fun x =>
        oSl x (some 1) none fun t =>
          (mergeA [some 0, none] [some (plT C p), some (T.fr (D.lst (D.str u :: List.map D.str r)))] [none, some t]).length = 2 ∧
            S C (mergeA [some 0, none] [some (plT C p), some (T.fr (D.lst (D.str u :: List.map D.str r)))] [none, some t])
              (fun t ρr => t.own = true ∧ ownO (give [plT C p, T.fr (D.lst (D.str u :: List.map D.str r))] (back [some 0, none] ρr (clear [some 0, none] [some (plT C p), some (T.fr (D.lst (D.str u :: List.map D.str r)))]))) = true ∧
                    Q t (give [plT C p, T.fr (D.lst (D.str u :: List.map D.str r))] (back [some 0, none] ρr (clear [some 0, none] [some (plT C p), some (T.fr (D.lst (D.str u :: List.map D.str r)))]))))
              fun C fs => R C fs := by
      intro S hS
      refine ⟨own0, ?_⟩
      rw [show look (clear [some 0, none] [some (plT C p), some (T.fr (D.lst (D.str u :: List.map D.str r)))]) 1 = some (T.fr (D.lst (D.str u :: List.map D.str r))) from rfl, optP_some]
      walk_at "ev"
      rw [cutTail]
      have em : mergeA [some 0, none] [some (plT C p), some (T.fr (D.lst (D.str u :: List.map D.str r)))] [none, some (.fr (.lst (r.map .str)))] = [plT C p, .fr (.lst (r.map .str))] := by
        show plT C p :: (T.fr (.lst (r.map .str))).lend :: [] = _
        rw [lend_fr]
      rw [em]
      refine ⟨rfl, hS _ _ ⟨rfl, ?_⟩⟩
      rw [show back [some 0, none] [some (plT C q.1), none] (clear [some 0, none] [some (plT C p), some (T.fr (D.lst (D.str u :: List.map D.str r)))]) = [some (plT C q.1), some (T.fr (D.lst (D.str u :: List.map D.str r)))] from rfl]
      walk_at "pl"
      exact h
    unfold plantRow at h1
    by_cases e1 : u = kindS
    · rw [if_pos (show u = tl ("kind" : Str) from e1)]
      rw [if_pos e1] at h1; cases h1
      exact core S_kind_row fun Q' R' hq => ⟨p, r, rfl, z1, hq⟩
    · rw [if_neg (show ¬ u = tl ("kind" : Str) from e1)]
      rw [if_neg e1] at h1
      by_cases e2 : u = gateS
      · rw [if_pos (show u = tl ("gate" : Str) from e2)]
        rw [if_pos e2] at h1; cases h1
        exact core S_gate_row fun Q' R' hq => ⟨p, r, rfl, z2, hq⟩
      · rw [if_neg (show ¬ u = tl ("gate" : Str) from e2)]
        rw [if_neg e2] at h1
        by_cases e3 : u = paceS
        · rw [if_pos e3] at h1; cases h1
          have d1 : ¬ u = tl ("line" : Str) := fun z => by rw [e3] at z; revert z; decide +kernel
          have d2 : ¬ u = tl ("desk" : Str) := fun z => by rw [e3] at z; revert z; decide +kernel
          have d3 : ¬ u = tl ("time" : Str) := fun z => by rw [e3] at z; revert z; decide +kernel
          have d4 : ¬ u = tl ("open" : Str) := fun z => by rw [e3] at z; revert z; decide +kernel
          rw [if_neg d1, if_neg d2, if_neg d3, if_neg d4, if_pos (show u = tl ("pace" : Str) from e3)]
          exact core S_pace_row fun Q' R' hq => ⟨p, r, rfl, z3, hq⟩
        · rw [if_neg e3] at h1; cases h1

theorem fn_read_plant {C : Addr} (A : At K mg "read_plant" "read_plant" s_read_plant) (B : Bl mg) (KS : Ks K mg C) (F_words_of : Fn P w K mg base "words_of" 1 1 (0) S_words_of) (F_plant_row : FnM P w K mg base "plant_row" 5 2 (0) (S_plant_row C)) (C_Plant : MkM P w K mg base "Plant" C 1 1 (0) (S_Plant C)) : Fn P w K mg base "read_plant" 6 1 (0) (S_read_plant C) := by
  have sc : FnScope ["text", "plant", "place", "row", "words", "fault"] ["text"] (defScope s_read_plant) := ⟨rfl, rfl, rfl, by decide +kernel, rfl, by decide +kernel, by decide +kernel⟩
  have nd := sc.nd
  refine Fn.of (k := 5) A sc (fun _ _ _ _ _ _ us hl => match us, hl with | [_], _ => rfl) rfl ?hc (fun f cdv A outer s H E hr =>
      (wss_cons (ws_setM (i := 1) nd rfl (Or.inl rfl) (wm_make0 C_Plant hr (by decide) rfl))
      (wss_cons (ws_for (p := (.tu (.cons (.nm 2) (.cons (.nm 3) .nil)))) PassesOwn.never rfl (wi_enum rfl B.enumerate (wa_cons (we_m1 l_split PySem.F.slot_str_split PySem.F.type_str_split mt_split (we_var (pv 0)) we_str) wa_nil)) (pg_tup rfl (pgs_cons (pg_name (i := 2) nd rfl (Or.inl rfl)) (pgs_cons (pg_name (i := 3) nd rfl (Or.inl rfl)) pgs_nil)))
      (wss_cons (ws_set (i := 4) nd rfl (Or.inl rfl) (we_fn F_words_of hr (by decide) rfl (wa_cons (we_var (pv 3)) wa_nil)))
      (wss_one (ws_if (wt_cmp op_gt l_gt (we_callB call_lenV l_len rfl B.len (by decide +kernel) (wa_cons (we_var (pv 4)) wa_nil)) we_int (nomark _)) (wss_cons (ws_setM (i := 5) nd rfl (Or.inl rfl) (wm_call F_plant_row LamX.takes0 hr (by decide) rfl (wam_own (i := 1) (pv 1) (wam_val (we_var (pv 4)) wam_nil))))
      (wss_one (ws_if (wt_cmp (op_neD hr.units) l_ne (we_var (pv 5)) we_str (nomark _)) wss_never wss_nil))) wss_nil))))
      (wss_one (ws_retM (wm_frz (wm_take (pv 1)))))))) ?hs
  case hc => walk_at "cst"
  case hs =>
    intro ts Q hl h
    obtain ⟨text, p, rfl, z, h1, h⟩ := h
    walk_at "ev"
    refine ⟨rfl, rfl, ?_⟩
    refine ⟨by decide, .inl trivial, ?_⟩
    rw [k__10_, oSplit_1]
    refine ⟨z, ?_⟩
    walk_at "ev"
    refine for_ind (enumD 0 ((splitC 10 text).map D.str)) T.fr (fun rest ρ' => ∃ (ls : List (List Nat)) (pi : PlD) (k : Nat) (o2 o3 o4 o5 : Option T), rest = enumD k (ls.map D.str) ∧ readRows pi ls = some p ∧
      (pi.kinds.length + ls.length < sizeLine ∧ pi.gates.length + ls.length < sizeLine ∧ pi.paces.length + ls.length < sizeLine) ∧ (∀ l ∈ ls, l.length + 2 ≤ sizeLine) ∧ ρ' = [some (T.fr (D.str text)), some (plT C pi), o2, o3, o4, o5]) ?_ ?_ ?_
    · refine ⟨splitC 10 text, {}, 0, none, none, none, none, rfl, h1, ?_, fun l hl => ?_, rfl⟩
      · have := splitC_len 10 text
        have e : ({} : PlD).kinds.length = 0 := rfl
        refine ⟨?_, ?_, ?_⟩ <;> show 0 + _ < _ <;> omega
      · have := (splitC_mem 10 text l hl).2
        omega
    · rintro ρ' ⟨ls, pi, k, o2, o3, o4, o5, e1, e2, _, _, rfl⟩
      cases ls with
      | cons l ls => cases e1
      | nil =>
        cases e2
        walk_at "ev"
        rw [frz_pl, optP_some]
        exact h
    · rintro x r ρ' ⟨ls, pi, k, o2, o3, o4, o5, e1, e2, ⟨z1, z2, z3⟩, e4, rfl⟩
      cases ls with
      | nil => cases e1
      | cons l ls =>
        cases e1
        walk_at "ev"
        refine ⟨l, rfl, e4 l (List.mem_cons_self ..), ?_⟩
        walk_at "ev"
        unfold readRows at e2
        cases hw : wordsOf l with
        | nil =>
          rw [hw] at e2
          rw [if_neg (by simp)]
          simp only [List.length_cons] at z1 z2 z3
          exact ⟨ls, pi, k + 1, _, _, _, _, rfl, e2, ⟨by omega, by omega, by omega⟩, fun l2 h2 => e4 l2 (List.mem_cons_of_mem _ h2), rfl⟩
        | cons u r =>
          rw [hw] at e2
          rw [if_pos (by simp)]
          refine ⟨⟨rfl, trivial⟩, ?_⟩
          simp only [] at e2
          cases hq : plantRow pi u r with
          | none => rw [hq] at e2; cases e2
          | some q =>
            obtain ⟨p', f⟩ := q
            rw [hq] at e2
            cases f with
            | cons c f => cases e2
            | nil =>
              rw [show look (clear [some 1, none] [some (T.fr (D.str text)), some (plT C pi), some (T.fr (D.int ↑k)), some (T.fr (D.str l)), some (T.fr (D.lst (List.map D.str (u :: r)))), o5]) 4 = some (T.fr (D.lst (List.map D.str (u :: r)))) from rfl, optP_some]
              have em : mergeA [some 1, none] [some (T.fr (D.str text)), some (plT C pi), some (T.fr (D.int ↑k)), some (T.fr (D.str l)), some (T.fr (D.lst (List.map D.str (u :: r)))), o5] [none, some (T.fr (D.lst (List.map D.str (u :: r))))] = [plT C pi, .fr (.lst ((u :: r).map .str))] := by
                show plT C pi :: (T.fr (.lst ((u :: r).map .str))).lend :: [] = _
                rw [lend_fr]
              rw [em]
              simp only [List.length_cons] at z1 z2 z3
              refine ⟨rfl, pi, u, r, (p', []), rfl, ⟨by omega, by omega, by omega⟩, hq, ?_⟩
              dsimp only
              rw [show back [some 1, none] [some (plT C p'), none] (clear [some 1, none] [some (T.fr (D.str text)), some (plT C pi), some (T.fr (D.int ↑k)), some (T.fr (D.str l)), some (T.fr (D.lst (List.map D.str (u :: r)))), o5]) = [some (T.fr (D.str text)), some (plT C p'), some (T.fr (D.int ↑k)), some (T.fr (D.str l)), some (T.fr (D.lst (List.map D.str (u :: r)))), o5] from rfl]
              obtain ⟨n1, n2, n3⟩ := plantRow_len pi u r p' [] hq
              refine ⟨by simp, .inl trivial, ?_⟩
              walk_at "ev"
              simp only [k_empty, decide_true, Bool.not_true, Bool.false_eq_true, if_false]
              exact ⟨ls, p', k + 1, _, _, _, _, rfl, e2, ⟨by omega, by omega, by omega⟩, fun l2 h2 => e4 l2 (List.mem_cons_of_mem _ h2), rfl⟩

/-! paces -/
def intsT (ns : List Int) : List T := (ns.map D.int).map .fr
def tf (n last b a : Int) : Int → List Int → Bool
  | _, [] => false
  | k, t :: r => decide (b + (last - t) / a < n - k) || tf n last b a (k + 1) r
def tooFast (ns : List Int) (q : List Nat × Int × Int) : Bool := tf ns.length (ns.getLast?.getD 0) q.2.1 q.2.2 0 ns
def S_is_too_fast : List T → (D → Prop) → Prop := fun ts P => ∃ ns q, ts = [.lst false (intsT ns), .fr (paceD q)] ∧ ns ≠ [] ∧ (0 < q.2.2 ∧ q.2.2 < 1073741824) ∧ P (.bl (tooFast ns q))
structure Good where
  t : Int
  g : List Nat
  k : List Nat
  r : List Nat
def goodD (x : Good) : D := .tup [.int x.t, .str x.g, .str x.k, .str x.r]
def paceOf (p : PlD) (g : List Nat) : Option (List Nat × Int × Int) := (p.paces.find? fun q => decide (q.1 = g)).map (·.2)
abbrev Met := List (List Nat × List Int)
def metAdd (m : Met) (g : List Nat) (t : Int) : Met := putT g ((getK m g).getD [] ++ [t]) m
/-- what pace_fault tells -/
def paceFault (p : PlD) : Int → Met → List Good → Option Int
  | _, _, [] => none
  | n, m, x :: xs => match paceOf p x.g with
    | none => paceFault p (n + 1) m xs
    | some q =>
      if x.k ≠ q.1 ∨ tooFast ((getK m x.g).getD [] ++ [x.t]) q = true then some n else paceFault p (n + 1) (metAdd m x.g x.t) xs
def S_pace_fault (C : Addr) : List T → (D → Prop) → Prop := fun ts P => ∃ p xs, ts = [.fr (plD C p), .fr (.lst (xs.map goodD))] ∧ (∀ q ∈ p.paces, 0 < q.2.2.2 ∧ q.2.2.2 < 1073741824) ∧ xs.length < 1000000 ∧ P (optD (paceFault p 0 [] xs))
theorem atI_last (ns : List Int) (h : ns ≠ []) : atI ns (-1) = some (ns.getLast?.getD 0) := by
  have hl : 0 < ns.length := List.length_pos_iff.mpr h
  unfold atI ixN
  rw [if_neg (by omega), if_pos (by omega)]
  have e : (-1 + (ns.length : Int)).toNat = ns.length - 1 := by omega
  rw [e]
  show ns[ns.length - 1]? = _
  rw [List.getLast?_eq_getElem?]
  have : ns.length - 1 < ns.length := by omega
  rw [List.getElem?_eq_getElem this]
  rfl
def metK (m : Met) : List (KY × T) := m.map fun q => (.inr q.1, .lst true (intsT q.2))
theorem metK_get (m : Met) (g : List Nat) : getK (metK m) (.inr g) = (getK m g).map fun ns => .lst true (intsT ns) := by
  induction m with
  | nil => rfl
  | cons q m ih =>
    obtain ⟨k, ns⟩ := q
    by_cases e : k = g
    · simp [metK, getK, e]
    · have h1 : getK (metK ((k, ns) :: m)) (.inr g) = getK (metK m) (.inr g) := by simp [metK, getK, List.find?, e]
      have h2 : getK ((k, ns) :: m) g = getK m g := by simp [getK, List.find?, e]
      rw [h1, h2, ih]
theorem metK_set (m : Met) (g : List Nat) (ns : List Int) : setK (.inr g) (.lst true (intsT ns)) (metK m) = metK (setK g ns m) := by
  induction m with
  | nil => rfl
  | cons q m ih =>
    obtain ⟨k, z⟩ := q
    by_cases e : k = g
    · simp [metK, setK, e]
    · have h1 : setK (.inr g) (.lst true (intsT ns)) (metK ((k, z) :: m)) = (.inr k, .lst true (intsT z)) :: setK (.inr g) (.lst true (intsT ns)) (metK m) := by simp [metK, setK, e]
      have h2 : setK g ns ((k, z) :: m) = (k, z) :: setK g ns m := by simp [setK, e]
      rw [h1, h2, ih]
      rfl
theorem fD_paces (p : PlD) : getK (fieldsD p) "paces" = some (.dk (pacesK p)) := rfl
theorem getK_mapD {α : Type} (f : α → List Nat) (g : α → D) (xs : List α) (k : List Nat) : getK (xs.map fun x => ((.inr (f x) : KY), g x)) (.inr k) = (xs.find? fun x => decide (f x = k)).map g := by
  induction xs with
  | nil => rfl
  | cons x xs ih =>
    by_cases e : f x = k
    · simp [getK, List.find?, e]
    · have h1 : getK (List.map (fun x => ((.inr (f x) : KY), g x)) (x :: xs)) (.inr k) = getK (List.map (fun x => ((.inr (f x) : KY), g x)) xs) (.inr k) := by simp [getK, List.find?, e]
      rw [h1, ih]
      simp [List.find?, e]
theorem paces_at (p : PlD) (g : List Nat) : getK (pacesK p) (.inr g) = (paceOf p g).map paceD := by
  unfold pacesK paceOf
  rw [getK_mapD]
  cases p.paces.find? (fun q => decide (q.1 = g)) <;> rfl
theorem oFld_plD (C : Addr) (p : PlD) (P : T → Prop) : oFld C "paces" (.fr (plD C p)) P = P (.fr (.dk (pacesK p))) := by
  unfold plD
  rw [oFld_ins, fD_paces, optP_some]
  simp
theorem paceFault_cons (p : PlD) (n : Int) (m : Met) (x : Good) (xs : List Good) : paceFault p n m (x :: xs) = match paceOf p x.g with
    | none => paceFault p (n + 1) m xs
    | some q => if x.k ≠ q.1 ∨ tooFast ((getK m x.g).getD [] ++ [x.t]) q = true then some n else paceFault p (n + 1) (metAdd m x.g x.t) xs := rfl
def met1 (m : Met) (g : List Nat) : Met := match getK m g with
  | some _ => m
  | none => m ++ [(g, [])]
theorem setK_snoc (g : List Nat) (x y : List Int) : ∀ m : Met, getK m g = none → setK g y (m ++ [(g, x)]) = m ++ [(g, y)]
  | [], _ => by simp [setK]
  | (k, z) :: m, h => by
    by_cases e : k = g
    · subst e; simp [getK] at h
    · have h2 : getK m g = none := by simpa [getK, List.find?, e] using h
      simp [setK, e, setK_snoc g x y m h2]
theorem met1_get (m : Met) (g : List Nat) : getK (met1 m g) g = some ((getK m g).getD []) := by
  unfold met1
  cases h : getK m g with
  | some ns => simp [h]
  | none => exact (idxK_snoc g [] m (idxK_none g m h)).2
theorem met1_set (m : Met) (g : List Nat) (t : Int) : setK g ((getK m g).getD [] ++ [t]) (met1 m g) = metAdd m g t := by
  unfold met1 metAdd
  cases h : getK m g with
  | some ns =>
    obtain ⟨n, h1, _⟩ := idxK_get g m ns h
    rw [putT_some h1]
  | none => rw [putT_none (idxK_none g m h)]; exact setK_snoc g [] _ m h
theorem sd_met (a b c d e f g' h i j : Option T) (m : Met) (g : List Nat) : sdRho [a, b, some (.dk true (metK m)), c, d, e, f, g', h, i, j] 2 [] (metK m) (.inr g) = [a, b, some (.dk true (metK (met1 m g))), c, d, e, f, g', h, i, j] := by
  unfold sdRho met1
  rw [metK_get]
  cases getK m g with
  | some ns => rfl
  | none =>
    show [a, b, some (.dk true (metK m ++ [(.inr g, .lst true [])])), c, d, e, f, g', h, i, j] = _
    simp [metK, intsT]
theorem intsT_snoc (ns : List Int) (t : Int) : intsT ns ++ [.fr (.int t)] = intsT (ns ++ [t]) := by simp [intsT]
theorem intsT_lend (m : Bool) (ns : List Int) : (T.lst m (intsT ns)).lend = .lst false (intsT ns) := lend_lst m _
theorem paceOf_mem (p : PlD) (g : List Nat) (q : List Nat × Int × Int) (h : paceOf p g = some q) : ∃ z ∈ p.paces, z.2 = q := by
  unfold paceOf at h
  obtain ⟨z, h1, h2⟩ := map_some h
  exact ⟨z, List.mem_of_find?_eq_some h1, h2⟩
theorem metAdd_len (m : Met) (g : List Nat) (t : Int) (B : Nat) (h1 : m.length < B) (h2 : ∀ q ∈ m, q.2.length < B) : (metAdd m g t).length ≤ m.length + 1 ∧ (∀ q ∈ metAdd m g t, q.2.length ≤ B) ∧ ((getK m g).getD []).length < B := by
  have h3 : ((getK m g).getD []).length < B := by
    cases h : getK m g with
    | none => show 0 < B; omega
    | some ns =>
      have : (g, ns) ∈ m := by
        clear h1 h2
        induction m with
        | nil => cases h
        | cons z m ih =>
          obtain ⟨k, v⟩ := z
          by_cases e : k = g
          · subst e
            have : v = ns := by simpa [getK] using h
            rw [this]; exact List.mem_cons_self ..
          · exact List.mem_cons_of_mem _ (ih (by simpa [getK, List.find?, e] using h))
      exact h2 _ this
  have aux : ∀ (m : Met) (y : List Int), y.length ≤ B → (∀ q ∈ m, q.2.length < B) → (putT g y m).length ≤ m.length + 1 ∧ ∀ q ∈ putT g y m, q.2.length ≤ B := by
    intro m y hy hm
    unfold putT
    cases idxK g m with
    | none =>
      refine ⟨by simp, fun q hq => ?_⟩
      rcases List.mem_append.mp hq with h | h
      · exact Nat.le_of_lt (hm q h)
      · rw [List.mem_singleton.mp h]; exact hy
    | some n =>
      show (setK g y m).length ≤ _ ∧ ∀ q ∈ setK g y m, _
      induction m with
      | nil => exact ⟨Nat.zero_le _, fun _ z => nomatch z⟩
      | cons z m ih =>
        obtain ⟨k, v⟩ := z
        have ih2 := ih fun q hq => hm q (List.mem_cons_of_mem _ hq)
        by_cases e : k = g
        · simp only [setK, if_pos e, List.length_cons]
          refine ⟨by omega, fun q hq => ?_⟩
          rcases List.mem_cons.mp hq with h | h
          · rw [h]; exact hy
          · exact Nat.le_of_lt (hm q (List.mem_cons_of_mem _ h))
        · simp only [setK, if_neg e, List.length_cons]
          refine ⟨by have := ih2.1; omega, fun q hq => ?_⟩
          rcases List.mem_cons.mp hq with h | h
          · rw [h]; exact Nat.le_of_lt (hm _ (List.mem_cons_self ..))
          · exact ih2.2 q h
  obtain ⟨a1, a2⟩ := aux m ((getK m g).getD [] ++ [t]) (by rw [List.length_append]; show _ + 1 ≤ B; omega) h2
  exact ⟨a1, a2, h3⟩

theorem fn_is_too_fast (A : At K mg "is_too_fast" "is_too_fast" s_is_too_fast) (B : Bl mg) : Fn P w K mg base "is_too_fast" 1 2 (0) S_is_too_fast := by
  have sc : FnScope ["times", "pace", "last", "kind", "burst", "gap", "k", "time"] ["times", "pace"] (defScope s_is_too_fast) := ⟨rfl, rfl, rfl, by decide +kernel, rfl, by decide +kernel, by decide +kernel⟩
  have nd := sc.nd
  refine Fn.of (k := 0) A sc (fun _ _ _ _ _ _ us hl => match us, hl with | [_, _], _ => rfl) rfl ?hc (fun f cdv A outer s H E hr =>
      (wss_cons (ws_unp (p := (.tu (.cons (.nm 3) (.cons (.nm 4) (.cons (.nm 5) .nil))))) (we_var (pv 1)) (pg_tup rfl (pgs_cons (pg_name (i := 3) nd rfl (Or.inl rfl)) (pgs_cons (pg_name (i := 4) nd rfl (Or.inl rfl)) (pgs_cons (pg_name (i := 5) nd rfl (Or.inl rfl)) pgs_nil)))))
      (wss_cons (ws_set (i := 2) nd rfl (Or.inl rfl) (we_ix (ix_V (hu_of hr)) l_ix (we_var (pv 0)) (we_un un_neg l_neg we_int) (fun _ _ => rfl)))
      (wss_cons (ws_for (p := (.tu (.cons (.nm 6) (.cons (.nm 7) .nil)))) PassesOwn.never rfl (wi_enum rfl B.enumerate (wa_cons (we_var (pv 0)) wa_nil)) (pg_tup rfl (pgs_cons (pg_name (i := 6) nd rfl (Or.inl rfl)) (pgs_cons (pg_name (i := 7) nd rfl (Or.inl rfl)) pgs_nil)))
      (wss_one (ws_if (wt_cmp op_gt l_gt (we_op op_sub l_sub (we_callB call_lenV l_len rfl B.len (by decide +kernel) (wa_cons (we_var (pv 0)) wa_nil)) (we_var (pv 6))) (we_op op_addV l_add (we_var (pv 4)) (we_op op_fdiv l_div (we_op op_sub l_sub (we_var (pv 2)) (we_var (pv 7))) (we_var (pv 5)))) (nomark _)) (wss_one (ws_ret we_bl)) wss_nil)))
      (wss_one (ws_ret we_bl)))))) ?hs
  case hc => walk_at "cst"
  case hs =>
    intro ts Q hl h
    obtain ⟨ns, q, rfl, hne, ⟨q1, q2⟩, h⟩ := h
    unfold paceD intsT
    walk_at "ev"
    rw [atI_map, atI_map, atI_last ns hne]
    simp only [Option.map_some, optP_some, asD_fr]
    refine for_ind (enumD 0 (ns.map D.int)) T.fr (fun rest ρ' => ∃ (r : List Int) (k : Nat) (o6 o7 : Option T), rest = enumD k (r.map D.int) ∧ tf ns.length (ns.getLast?.getD 0) q.2.1 q.2.2 k r = tooFast ns q ∧
      ρ' = [some (T.lst false (List.map T.fr (List.map D.int ns))), some (T.fr (D.tup [D.str q.fst, D.int q.snd.fst, D.int q.snd.snd])), some (T.fr (.int (ns.getLast?.getD 0))), some (T.fr (D.str q.fst)), some (T.fr (D.int q.snd.fst)), some (T.fr (D.int q.snd.snd)), o6, o7]) ?_ ?_ ?_
    · exact ⟨ns, 0, none, none, rfl, rfl, rfl⟩
    · rintro ρ' ⟨r, k, o6, o7, e1, e2, rfl⟩
      cases r with
      | cons t r => cases e1
      | nil =>
        walk_at "ev"
        rw [← e2] at h
        exact h
    · rintro x r' ρ' ⟨r, k, o6, o7, e1, e2, rfl⟩
      cases r with
      | nil => cases e1
      | cons t r =>
        cases e1
        walk_at "ev"
        refine ⟨⟨q1, q2⟩, ?_⟩
        unfold tf at e2
        rw [List.length_map, List.length_map]
        by_cases hc : q.2.1 + (ns.getLast?.getD 0 - t) / q.2.2 < (ns.length : Int) - (k : Int)
        · rw [if_pos hc]
          rw [decide_eq_true hc, Bool.true_or] at e2
          rw [← e2] at h
          exact h
        · rw [if_neg hc]
          rw [decide_eq_false hc, Bool.false_or] at e2
          exact ⟨r, k + 1, _, _, rfl, e2, rfl⟩

theorem fn_pace_fault {C : Addr} (A : At K mg "pace_fault" "pace_fault" s_pace_fault) (B : Bl mg) (KS : Ks K mg C) (F_is_too_fast : Fn P w K mg base "is_too_fast" 1 2 (0) S_is_too_fast) : Fn P w K mg base "pace_fault" 2 2 (0) (S_pace_fault C) := by
  have sc : FnScope ["plant", "day", "met", "number", "good", "time", "gate", "kind", "parcel", "pace", "times"] ["plant", "day"] (defScope s_pace_fault) := ⟨rfl, rfl, rfl, by decide +kernel, rfl, by decide +kernel, by decide +kernel⟩
  have nd := sc.nd
  refine Fn.of (k := 1) A sc (fun _ _ _ _ _ _ us hl => match us, hl with | [_, _], _ => rfl) rfl ?hc (fun f cdv A outer s H E hr =>
      (wss_cons (ws_setM (i := 2) nd rfl (Or.inl rfl) (wm_mk wk_dk0))
      (wss_cons (ws_for (p := (.tu (.cons (.nm 3) (.cons (.nm 4) .nil)))) PassesOwn.never rfl (wi_enum rfl B.enumerate (wa_cons (we_var (pv 1)) wa_nil)) (pg_tup rfl (pgs_cons (pg_name (i := 3) nd rfl (Or.inl rfl)) (pgs_cons (pg_name (i := 4) nd rfl (Or.inl rfl)) pgs_nil)))
      (wss_cons (ws_unp (p := (.tu (.cons (.nm 5) (.cons (.nm 6) (.cons (.nm 7) (.cons (.nm 8) .nil)))))) (we_var (pv 4)) (pg_tup rfl (pgs_cons (pg_name (i := 5) nd rfl (Or.inl rfl)) (pgs_cons (pg_name (i := 6) nd rfl (Or.inl rfl)) (pgs_cons (pg_name (i := 7) nd rfl (Or.inl rfl)) (pgs_cons (pg_name (i := 8) nd rfl (Or.inl rfl)) pgs_nil))))))
      (wss_one (ws_if (wt_cmp (op_inV (hu_of hr)) l_in (we_var (pv 6)) (we_fld (we_var (pv 0)) KS.c_Plant KS.n_Plant_paces) rfl) (wss_cons (ws_set (i := 9) nd rfl (Or.inl rfl) (we_ix (ix_V (hu_of hr)) l_ix (we_fld (we_var (pv 0)) KS.c_Plant KS.n_Plant_paces) (we_var (pv 6)) (fun _ _ => rfl)))
      (wss_alias (j := 10) nd rfl (Or.inl rfl) (wp_var (pv 2)) (we_var (pv 6)) ⟨rfl, rfl, rfl, rfl⟩ (pv 10) (we_var (pv 5)) (wt_ww (ww_or (wt_cmp (op_neD hr.units) l_ne (we_var (pv 7)) (we_ix (ix_V (hu_of hr)) l_ix (we_var (pv 9)) we_int (fun _ _ => rfl)) (nomark _)) (ww_one (wt_val (we_fn F_is_too_fast hr (by decide) rfl (wa_cons (we_var (pv 10)) (wa_cons (we_var (pv 9)) wa_nil)))) (.inr rfl)))) (wss_one (ws_ret (we_var (pv 3)))) wss_nil)) wss_nil))))
      (wss_one (ws_ret we_non))))) ?hs
  case hc => walk_at "cst"
  case hs =>
    intro ts Q hl h
    obtain ⟨p, xs, rfl, hq, hx, h⟩ := h
    walk_at "ev"
    refine ⟨by decide, .inl trivial, ?_⟩
    refine for_ind (enumD 0 (xs.map goodD)) T.fr (fun rest ρ' => ∃ (ys : List Good) (k : Nat) (m : Met) (o3 o4 o5 o6 o7 o8 o9 o10 : Option T), rest = enumD k (ys.map goodD) ∧ paceFault p k m ys = paceFault p 0 [] xs ∧
      (m.length + ys.length < sizeLine ∧ ∀ q ∈ m, q.2.length + ys.length < sizeLine) ∧ ρ' = [some (T.fr (plD C p)), some (T.fr (D.lst (List.map goodD xs))), some (T.dk true (metK m)), o3, o4, o5, o6, o7, o8, o9, o10]) ?_ ?_ ?_
    · exact ⟨xs, 0, [], _, _, _, _, _, _, _, _, rfl, rfl, ⟨by rw [sizeLine_eq]; show 0 + _ < _; omega, fun q z => nomatch z⟩, rfl⟩
    · rintro ρ' ⟨ys, k, m, o3, o4, o5, o6, o7, o8, o9, o10, e1, e2, _, rfl⟩
      cases ys with
      | cons y ys => cases e1
      | nil =>
        walk_at "ev"
        rw [← e2] at h
        exact h
    · rintro x r ρ' ⟨ys, k, m, o3, o4, o5, o6, o7, o8, o9, o10, e1, e2, ⟨z1, z2⟩, rfl⟩
      cases ys with
      | nil => cases e1
      | cons y ys =>
        cases e1
        rw [show goodD y = .tup [.int y.t, .str y.g, .str y.k, .str y.r] from rfl]
        walk_at "ev"
        rw [oFld_plD]
        walk_at "ev"
        rw [paces_at, Option.isSome_map]
        rw [paceFault_cons] at e2
        cases hp : paceOf p y.g with
        | none =>
          rw [hp] at e2
          simp only [] at e2
          rw [if_neg (by simp)]
          simp only [List.length_cons] at z1 z2
          exact ⟨ys, k + 1, m, _, _, _, _, _, _, _, _, rfl, e2, ⟨by omega, fun q hq => by have := z2 q hq; omega⟩, rfl⟩
        | some q =>
          rw [hp] at e2
          rw [if_pos (show (some q).isSome = true from rfl), oFld_plD]
          walk_at "ev"
          rw [paces_at, hp]
          simp only [Option.map_some, optP_some, asD_fr, sAlias, sSd_eq]
          walk_at "ev"
          rw [sd_met]
          walk_at "ev"
          refine ⟨by simpa [metK] using (by simp only [List.length_cons] at z1; omega : m.length < sizeLine), ?_⟩
          rw [metK_get, met1_get]
          simp only [List.length_cons] at z1 z2
          obtain ⟨l1, l2, l3⟩ := metAdd_len m y.g y.t (sizeLine - (ys.length + 1)) (by omega) (fun q hq => by have := z2 q hq; omega)
          refine ⟨by decide, by decide, by simp only [intsT, List.length_map]; omega, ?_⟩
          obtain ⟨zq, hz1, hz2⟩ := paceOf_mem p y.g q hp
          have hgap := hq zq hz1
          rw [hz2] at hgap
          simp only [] at e2
          have up : T.upd [PStep.key (Sum.inr y.g)] (T.dk true (metK (met1 m y.g))) (T.lst true (intsT ((getK m y.g).getD []) ++ [T.fr (D.int y.t)])) = .dk true (metK (metAdd m y.g y.t)) := by
            rw [upd_key _ _ _ _ (.lst true (intsT ((getK m y.g).getD []))) _ (by rw [metK_get, met1_get]; rfl), upd_nil, intsT_snoc, metK_set, met1_set]
          rw [up, intsT_snoc, intsT_lend, intsT_lend, show paceD q = .tup [.str q.1, .int q.2.1, .int q.2.2] from rfl]
          walk_at "ev"
          by_cases ek : y.k = q.1
          · simp only [ek, decide_true, Bool.not_true, Bool.false_eq_true, if_false]
            refine ⟨(getK m y.g).getD [] ++ [y.t], q, rfl, by simp, hgap, ?_⟩
            walk_at "ev"
            by_cases et : tooFast ((getK m y.g).getD [] ++ [y.t]) q = true
            · rw [if_pos et]
              rw [if_pos (.inr et)] at e2
              rw [← e2] at h
              exact h
            · rw [if_neg et]
              rw [if_neg (fun z => z.elim (fun a => a ek) et)] at e2
              exact ⟨ys, k + 1, metAdd m y.g y.t, _, _, _, _, _, _, _, _, rfl, e2, ⟨by omega, fun q hq => by have := l2 q hq; omega⟩, rfl⟩
          · simp only [ek, decide_false, Bool.not_false, if_true]
            rw [if_pos (.inl ek)] at e2
            rw [← e2] at h
            exact h

/-! draws -/
theorem l_mulW : Leaf2 K (rI CMulW fun i j => .int (i * j)) (oI CMulW fun i j => .int (i * j)) := l_I fun _ _ _ => .int _
def S__law_mix : List T → (D → Prop) → Prop := fun ts P => ∃ c k : Int, ts = [.fr (.int c), .fr (.int k)] ∧ 0 ≤ k ∧ k ≤ (LIM : Int) + 100 ∧ ∀ m : Int, 0 ≤ m → m < 1999999973 → P (.int m)
def S__law_pickM : SpS := fun ts P _ => ∃ x y z many : Int, ts = [.lst true (ints3 x y z), .fr (.int many)] ∧ 0 ≤ z ∧ z ≤ (LIM : Int) ∧ (0 < many ∧ many < 1073741824) ∧ ∀ d x' y' z' : Int, 0 ≤ d → d < many → 0 ≤ z' → z' ≤ z + 1 → P (.fr (.int d)) [some (.lst true (ints3 x' y' z')), none]
theorem ix3_0 (m : Bool) (x y z : Int) (P : T → Prop) : oIx (.lst m [.fr (.int x), .fr (.int y), .fr (.int z)]) (.fr (.int 0)) P = P (.fr (.int x)) := rfl
theorem ix3_1 (m : Bool) (x y z : Int) (P : T → Prop) : oIx (.lst m [.fr (.int x), .fr (.int y), .fr (.int z)]) (.fr (.int 1)) P = P (.fr (.int y)) := rfl
theorem ix3_2 (m : Bool) (x y z : Int) (P : T → Prop) : oIx (.lst m [.fr (.int x), .fr (.int y), .fr (.int z)]) (.fr (.int 2)) P = P (.fr (.int z)) := rfl
theorem put3_0 (x y z d : Int) : putAt (.lst true [.fr (.int x), .fr (.int y), .fr (.int z)]) (.fr (.int 0)) (.fr (.int d)) = some (.lst true [.fr (.int d), .fr (.int y), .fr (.int z)]) := rfl

theorem fn__law_mix (A : At K mg "_law_mix" "_law_mix" s__law_mix) (B : Bl mg) : Fn P w K mg base "_law_mix" 1 2 (0) S__law_mix := by
  have sc : FnScope ["cell", "k", "m"] ["cell", "k"] (defScope s__law_mix) := ⟨rfl, rfl, rfl, by decide +kernel, rfl, by decide +kernel, by decide +kernel⟩
  have nd := sc.nd
  refine Fn.of (k := 0) A sc (fun _ _ _ _ _ _ us hl => match us, hl with | [_, _], _ => rfl) rfl ?hc (fun f cdv A outer s H E hr =>
      (wss_cons (ws_set (i := 2) nd rfl (Or.inl rfl) (we_op op_mod l_mod (we_op op_mul l_mul (we_op op_addV l_add (we_op op_addV l_add (we_op op_mod l_mod (we_var (pv 0)) we_int) (we_op op_mul l_mul (we_op op_mulW l_mulW (we_var (pv 1)) (we_var (pv 1))) we_int)) we_int) we_int) we_int))
      (wss_one (ws_ret (we_op op_mod l_mod (we_op op_mul l_mul (we_var (pv 2)) (we_var (pv 2))) we_int))))) ?hs
  case hc => walk_at "cst"
  case hs =>
    intro ts Q hl h
    obtain ⟨c, k, rfl, h0, h1, h⟩ := h
    walk_at "ev"
    have hk : k.natAbs < 2 ^ 4001 := by
      have e : (2 : Nat) ^ 4001 = LIM * 2 := Nat.pow_succ (n := 2) (m := 4000)
      have l : 100 < LIM := by unfold LIM; decide +kernel
      rw [e]; omega
    have m1 : 0 ≤ (c % 2147483629 + k * k * 7919 + 11) * 48271 % 2147483647 := Int.emod_nonneg _ (by decide)
    have m2 : (c % 2147483629 + k * k * 7919 + 11) * 48271 % 2147483647 < 2147483647 := Int.emod_lt_of_pos _ (by decide)
    generalize (c % 2147483629 + k * k * 7919 + 11) * 48271 % 2147483647 = m at m1 m2 ⊢
    refine ⟨by decide, wide_mul hk hk (by decide) (by decide) (by decide), .inr ⟨by decide, by decide⟩, .inr ⟨by decide, by decide⟩, by decide, .inr ⟨by omega, by omega⟩, by decide, h _ (Int.emod_nonneg _ (by decide)) (Int.emod_lt_of_pos _ (by decide))⟩

theorem fnM__law_pick (A : At K mg "_law_pick" "_law_pick" s__law_pick) (B : Bl mg) (F__law_mix : Fn P w K mg base "_law_mix" 1 2 (0) S__law_mix) : FnM P w K mg base "_law_pick" 2 2 (0) S__law_pickM := by
  have sc : FnScope ["left", "many", "digit"] ["left", "many"] (defScope s__law_pick) := ⟨rfl, rfl, rfl, by decide +kernel, rfl, by decide +kernel, by decide +kernel⟩
  have nd := sc.nd
  refine FnM.of2 (k := 1) A sc (fun _ _ _ _ _ _ us hl => match us, hl with | [_, _], _ => rfl) rfl ?hc (fun f cdv A outer s H E hr tk =>
      (wss_cons (ws_putP (hu_of hr) (wk_we (we_op op_addV l_add (we_ix (ix_V (hu_of hr)) l_ix (we_var (pv 0)) we_int (fun _ _ => rfl)) we_int)) (wp_var (pv 0)) we_int)
      (wss_cons (ws_if (wt_cmp op_gt l_gt (we_ix (ix_V (hu_of hr)) l_ix (we_var (pv 0)) we_int (fun _ _ => rfl)) we_int (nomark _)) (wss_cons (ws_set (i := 2) nd rfl (Or.inl rfl) (we_op op_mod l_mod (we_ix (ix_V (hu_of hr)) l_ix (we_var (pv 0)) we_int (fun _ _ => rfl)) (we_var (pv 1))))
      (wss_cons (ws_putP (hu_of hr) (wk_we (we_op op_fdiv l_div (we_ix (ix_V (hu_of hr)) l_ix (we_var (pv 0)) we_int (fun _ _ => rfl)) (we_var (pv 1)))) (wp_var (pv 0)) we_int)
      (wss_one (ws_ret (we_var (pv 2)))))) wss_nil)
      (wss_one (ws_ret (we_op op_mod l_mod (we_op op_fdiv l_div (we_fn F__law_mix hr (by decide) rfl (wa_cons (we_fn F__law_mix hr (by decide) rfl (wa_cons (we_ix (ix_V (hu_of hr)) l_ix (we_var (pv 0)) we_int (fun _ _ => rfl)) (wa_cons (we_ix (ix_V (hu_of hr)) l_ix (we_var (pv 0)) we_int (fun _ _ => rfl)) wa_nil))) (wa_cons (we_op op_addV l_add (we_ix (ix_V (hu_of hr)) l_ix (we_var (pv 0)) we_int (fun _ _ => rfl)) we_int) wa_nil))) we_int) (we_var (pv 1)))))))) ?hs
  case hc => walk_at "cst"
  case hs =>
    intro ts Q R hl h
    obtain ⟨x, y, z, many, rfl, h0, h1, ⟨h2, h3⟩, h⟩ := h
    unfold TL.ints3
    walk_at "ev"
    refine ⟨rfl, ?_⟩
    rw [show ixN 3 2 = some 2 from rfl]
    simp only [Option.map_some, optP_some]
    rw [show ([T.fr (D.int x), T.fr (D.int y), T.fr (D.int z)] : List T).set 2 (T.fr (D.int (z + 1))) = [T.fr (D.int x), T.fr (D.int y), T.fr (D.int (z + 1))] from rfl]
    simp only [ix3_0, ix3_1, ix3_2]
    walk_at "ev"
    by_cases hx : 0 < x
    · rw [if_pos hx]
      refine ⟨h2, ⟨h2, h3⟩, rfl, ?_⟩
      try rw [put3_0]
      try rw [optP_some]
      refine ⟨rfl, ?_⟩
      exact h _ _ _ _ (Int.emod_nonneg _ (by omega)) (Int.emod_lt_of_pos _ h2) (by omega) (by omega)
    · rw [if_neg hx]
      try simp only [lend_fr]
      refine ⟨y, z + 1, rfl, by omega, by omega, fun m m0 m1 => ?_⟩
      walk_at "ev"
      try simp only [lend_fr]
      refine ⟨m, z + 1 + 64, rfl, by omega, by omega, fun m' m0' m1' => ?_⟩
      walk_at "ev"
      refine ⟨⟨by decide, by decide⟩, h2, rfl, ?_⟩
      exact h _ _ _ _ (Int.emod_nonneg _ (by omega)) (Int.emod_lt_of_pos _ h2) (by omega) (by omega)

end K67
set_option Elab.async false
set_option linter.all false
set_option maxRecDepth 100000
set_option maxHeartbeats 1000000
namespace K67
open PySem PySem.Spec PyProof.Rows L2 TL
local macro_rules | `(tactic| walk_at "cst") => `(tactic| first | decide | (simp only [sizeLine_eq]; decide))
variable {P : Program} {w : World} {K : PySem.W.Frag} {mg : Str → Option Value} {base : Heap}
def eH67 (x : List Tx × List Tx × List (Tx × Tx × Int × Int) × Tx) : D := .dk [(.inr (tl ("gates" : Str)), eL D.str x.1), (.inr (tl ("kinds" : Str)), eL D.str x.2.1), (.inr (tl ("paces" : Str)), eDS (eT3 D.str D.int D.int) x.2.2.1), (.inr (tl ("text" : Str)), D.str x.2.2.2)]
theorem o_H67_gates {x : List Tx × List Tx × List (Tx × Tx × Int × Int) × Tx} : Op2 oIx (.fr (eH67 x)) (.fr (.str (tl ("gates" : Str)))) [] (.fr ((eL D.str) x.1)) := o_dkGet (by kernel_rfl)
theorem o_H67_kinds {x : List Tx × List Tx × List (Tx × Tx × Int × Int) × Tx} : Op2 oIx (.fr (eH67 x)) (.fr (.str (tl ("kinds" : Str)))) [] (.fr ((eL D.str) x.2.1)) := o_dkGet (by kernel_rfl)
theorem o_H67_paces {x : List Tx × List Tx × List (Tx × Tx × Int × Int) × Tx} : Op2 oIx (.fr (eH67 x)) (.fr (.str (tl ("paces" : Str)))) [] (.fr ((eDS (eT3 D.str D.int D.int)) x.2.2.1)) := o_dkGet (by kernel_rfl)
theorem o_H67_text {x : List Tx × List Tx × List (Tx × Tx × Int × Int) × Tx} : Op2 oIx (.fr (eH67 x)) (.fr (.str (tl ("text" : Str)))) [] (.fr (D.str x.2.2.2)) := o_dkGet (by kernel_rfl)

def f__law_left (script : (List Int)) (k_ : Int) : (List Int) :=
  let cell : Int := (if (decide ((0 : Int) < (script.length : Int))) = true then ((atI script (k_ % (script.length : Int))).getD default) else (0 : Int))
  let great : Int := ((cell.natAbs : Int) * (if ((decide (((10 : Int) ^ ((18 : Int)).toNat) ≤ (cell.natAbs : Int))) && (decide (k_ < (script.length : Int)))) = true then (1 : Int) else 0))
  [great, ((cell % ((10 : Int) ^ ((30 : Int)).toNat)) + ((1000003 : Int) * k_)), (0 : Int)]
def ok__law_left (script : (List Int)) (k_ : Int) : Prop :=
  All [if (decide ((0 : Int) < (script.length : Int))) = true then All [(0 : Int) < (script.length : Int),
  (atI script (k_ % (script.length : Int))).isSome = true] else True,
  (let cell : Int := (if (decide ((0 : Int) < (script.length : Int))) = true then ((atI script (k_ % (script.length : Int))).getD default) else (0 : Int))
  All [CMul (cell.natAbs : Int) (if ((decide (((10 : Int) ^ ((18 : Int)).toNat) ≤ (cell.natAbs : Int))) && (decide (k_ < (script.length : Int)))) = true then (1 : Int) else 0),
  (let great : Int := ((cell.natAbs : Int) * (if ((decide (((10 : Int) ^ ((18 : Int)).toNat) ≤ (cell.natAbs : Int))) && (decide (k_ < (script.length : Int)))) = true then (1 : Int) else 0))
  All [(0 : Int) < ((10 : Int) ^ ((30 : Int)).toNat)])])]
def S__law_left : SpS := fun ts P _ => ∃ script : (List Int), ∃ k_ : Int, ts = [(T.fr (D.scr script)), (T.fr (D.int k_))] ∧ ok__law_left script k_ ∧ P (tF true D.int (f__law_left script k_)) [none, none]
theorem fn__law_left (A : At K mg "_law_left" "_law_left" s__law_left) (B : Bl mg) : FnM P w K mg base "_law_left" 1 2 (0) S__law_left := by
  have sc : FnScope ["script", "k", "cell", "great"] ["script", "k"] (defScope s__law_left) := ⟨rfl, rfl, rfl, by decide +kernel, rfl, by decide +kernel, by decide +kernel⟩
  have nd := sc.nd
  refine FnM.of2 (k := 0) A sc (fun _ _ _ _ _ _ us hl => match us, hl with | [_, _], _ => rfl) rfl ?hc (fun f cdv A outer s H E hr tk =>
      (wss_cons (ws_set (i := 2) nd rfl (loc_of rfl) (we_ifE (wt_cmp op_gt l_gt (we_callB call_lenV l_len rfl B.len (by decide +kernel) (wa_cons (we_var (pv 0)) wa_nil)) we_int (nomark _)) (we_ix (ix_V (hu_of hr)) l_ix (we_var (pv 0)) (we_op op_mod l_mod (we_var (pv 1)) (we_callB call_lenV l_len rfl B.len (by decide +kernel) (wa_cons (we_var (pv 0)) wa_nil))) (fun _ _ => rfl)) we_int))
      (wss_cons (ws_set (i := 3) nd rfl (loc_of rfl) (we_op op_mul l_mul (we_callB call_abs l_abs rfl B.abs (by decide +kernel) (wa_cons (we_var (pv 2)) wa_nil)) (we_callTy (CallR.or call_int1 call_int_str) l_intV rfl B.int (by decide +kernel) (wa_cons (we_and (we_cmp op_ge l_ge (we_callB call_abs l_abs rfl B.abs (by decide +kernel) (wa_cons (we_var (pv 2)) wa_nil)) (we_op op_pow l_pow we_int we_int) (nomark _)) (we_one (we_cmp op_lt l_lt (we_var (pv 1)) (we_callB call_lenV l_len rfl B.len (by decide +kernel) (wa_cons (we_var (pv 0)) wa_nil)) (nomark _)))) wa_nil))))
      (wss_one (ws_retM (wm_mk (wk_lst (wks_cons (wk_we (we_var (pv 3))) (wks_cons (wk_we (we_op op_addV l_add (we_op op_mod l_mod (we_var (pv 2)) (we_op op_pow l_pow we_int we_int)) (we_op op_mul l_mul we_int (we_var (pv 1))))) (wks_cons (wk_we we_int) wks_nil)))))))))) ?hs
  case hc => walk_at "cst"
  case hs =>
    intro ts Q R hl h
    obtain ⟨script, k_, rfl, ok, h⟩ := h
    refine rg_M (ts := [(T.fr (D.scr script)), (T.fr (D.int k_))]) (ρ := [some (T.fr (D.scr script)), some (T.fr (D.int k_)), none, none]) (ps := fun _ => [some (T.fr (D.scr script)), some (T.fr (D.int k_))]) (gv := fun _ => [none, none]) (τ := fun r => (tF true D.int r)) (rg_end (rg_assoc (rg_let (ρ1 := (fun (cell : Int) => [some (T.fr (D.scr script)), some (T.fr (D.int k_)), some (T.fr (D.int cell)), none])) (if (decide ((0 : Int) < (script.length : Int))) = true then ((atI script (k_ % (script.length : Int))).getD default) else (0 : Int)) (sn_set (d := D.int (if (decide ((0 : Int) < (script.length : Int))) = true then ((atI script (k_ % (script.length : Int))).getD default) else (0 : Int))) (ep_ifO (τ := (fr D.int)) (v := ((atI script (k_ % (script.length : Int))).getD default)) (v' := (0 : Int)) (eb_val (ep2 (epn (eps_cons (ep_var (i := 0) rfl) eps_nil) (o_len il_S.is)) ep_c o_I0)) (ep2 (ep_var (i := 0) rfl) (ep2 (ep_var (i := 1) rfl) (epn (eps_cons (ep_var (i := 0) rfl) eps_nil) (o_len il_S.is)) o_I) (o_ix il_S.is (k_ % (script.length : Int)))) ep_c) rfl) fun cell => (rg_assoc (rg_let (ρ1 := (fun (great : Int) => [some (T.fr (D.scr script)), some (T.fr (D.int k_)), some (T.fr (D.int cell)), some (T.fr (D.int great))])) ((cell.natAbs : Int) * (if ((decide (((10 : Int) ^ ((18 : Int)).toNat) ≤ (cell.natAbs : Int))) && (decide (k_ < (script.length : Int)))) = true then (1 : Int) else 0)) (sn_set (d := D.int ((cell.natAbs : Int) * (if ((decide (((10 : Int) ^ ((18 : Int)).toNat) ≤ (cell.natAbs : Int))) && (decide (k_ < (script.length : Int)))) = true then (1 : Int) else 0))) (ep2 (epn (eps_cons (ep_var (i := 2) rfl) eps_nil) o_abs) (epn (eps_cons (ep_and (ep2 (epn (eps_cons (ep_var (i := 2) rfl) eps_nil) o_abs) (ep2 ep_c ep_c (o_I' (cpow_lit (by decide) : CPow (10 : Int) (18 : Int)))) o_I0) (ep2 (ep_var (i := 1) rfl) (epn (eps_cons (ep_var (i := 0) rfl) eps_nil) (o_len il_S.is)) o_I0)) eps_nil) o_intB) o_I) rfl) fun great => (rg_retMD (m := [great, ((cell % ((10 : Int) ^ ((30 : Int)).toNat)) + ((1000003 : Int) * k_)), (0 : Int)]) (t := (tF true D.int [great, ((cell % ((10 : Int) ^ ((30 : Int)).toNat)) + ((1000003 : Int) * k_)), (0 : Int)])) (ep_mLstE (t := (tF true D.int [great, ((cell % ((10 : Int) ^ ((30 : Int)).toNat)) + ((1000003 : Int) * k_)), (0 : Int)])) (eps_cons (ep_mD (ep_var (i := 3) rfl)) (eps_cons (ep_mD (ep2 (ep2 (ep_var (i := 2) rfl) (ep2 ep_c ep_c (o_I' (cpow_lit (by decide) : CPow (10 : Int) (30 : Int)))) o_I) (ep2 ep_c (ep_var (i := 1) rfl) (o_I' (cmul_l _))) o_add)) (eps_cons (ep_mD ep_c) eps_nil))) rfl rfl) (fun _ h => h _ rfl))))))) ?_ h ?_ ?_ ?_
    · exact ok
    · exact fun r => (own_tF D.int) r
    · exact fun _ => rfl
    · exact fun _ => rfl

def m__law_pick (many : Int) : WPt Int := fun P => (0 < many ∧ many < 1073741824) ∧ ∀ d : Int, 0 ≤ d → d < many → P d
def S__law_pickT : List T → (D → Prop) → Prop := fun ts P => ∃ many : Int, ∃ R : Int → Prop, ts = [.fr .rng, .fr (.int many)] ∧ (∀ r, R r → P (.int r)) ∧ m__law_pick many R
theorem fn__law_pickT (F : FnM P w K mg base "_law_pick" 2 2 (0) S__law_pickM) : Fn P w K mg base "_law_pick" 2 2 (1) S__law_pickT :=
  Fn.ofM F (rng_open (fun x y z many P h0 h1 ⟨many', R, e, i, hm, hd⟩ => by
    cases e
    exact ⟨x, y, z, many, rfl, h0, h1, hm, fun d x' y' z' a b c d' => ⟨d, x', y', z', rfl, rfl, c, d', i _ (hd d a b)⟩⟩) fun ts P ⟨many, R, e, _⟩ => ⟨many, e⟩)

def m__law_spelt (told : (List Tx)) : WPt Tx := fun P =>
  let letters : Tx := (tl ("abcdefghijklmnopqrstuvwxyz" : Str))
  All [(tl ("to by from desk line gate kind time open pace eldest rank meet turns" : Str)).length + 2 ≤ sizeLine] ∧ (let words : (List Tx) := (splitC 32 (tl ("to by from desk line gate kind time open pace eldest rank meet turns" : Str)))
  m__law_pick (9 : Int) fun (d2 : Int) => let size : Int := ((1 : Int) + d2)
  m__law_pick (14 : Int) fun (d8 : Int) => All [(atI words d8).isSome = true] ∧ (let name : Tx := ((atI words d8).getD default)
  (fun (P : Tx → Prop) => if (decide (size < (9 : Int))) = true then
  (All [-(2 ^ 62) ≤ size ∧ size < 2 ^ 62] ∧ (All [(upI 0 (size).toNat).length ≤ sizeLine] ∧ (mapW (fun (x10 : Int) (P : Tx → Prop) => m__law_pick (26 : Int) fun (d14 : Int) => All [(atI letters d14).isSome = true] ∧ (P [(atI letters d14).getD default])) (upI 0 (size).toNat) fun (y15 : (List Tx)) => All [(y15.map (·.length)).sum + y15.length * (tl ("" : Str)).length ≤ 16777216] ∧ (let name : Tx := (joinL (tl ("" : Str)) y15)
  P (name)))))
  else
  (P (name))) fun (s9 : Tx) => All [∀ x17 ∈ letters, All [(cut s9 none (some (7 : Int))).length + [x17].length ≤ sizeLine],
  [s9].length + (letters.map fun (x17 : Nat) => ((cut s9 none (some (7 : Int))) ++ [x17])).length ≤ sizeLine,
  (let some_ : (List Tx) := ([s9] ++ (letters.map fun (x17 : Nat) => ((cut s9 none (some (7 : Int))) ++ [x17])))
  All [(atI ((some_.filter fun (x18 : Tx) => (!(memB x18 told))).map fun (x18 : Tx) => x18) (0 : Int)).isSome = true])] ∧ P (let some_ : (List Tx) := ([s9] ++ (letters.map fun (x17 : Nat) => ((cut s9 none (some (7 : Int))) ++ [x17])))
  ((atI ((some_.filter fun (x18 : Tx) => (!(memB x18 told))).map fun (x18 : Tx) => x18) (0 : Int)).getD default))))
def S__law_spelt : List T → (D → Prop) → Prop := fun ts P => ∃ told : (List Tx), ∃ R : Tx → Prop, ts = [(T.fr D.rng), (tF false D.str told)] ∧ (∀ r, R r → P (D.str r)) ∧ m__law_spelt told R
theorem fn__law_spelt (A : At K mg "_law_spelt" "_law_spelt" s__law_spelt) (B : Bl mg) (F__law_pick : Fn P w K mg base "_law_pick" 2 2 (1) S__law_pickT) : Fn P w K mg base "_law_spelt" 3 2 (2 ^ 63) S__law_spelt := by
  have sc : FnScope ["left", "told", "letters", "words", "size", "name", "some", "sign", "one", "k"] ["left", "told"] (defScope s__law_spelt) := ⟨rfl, rfl, rfl, by decide +kernel, rfl, by decide +kernel, by decide +kernel⟩
  have nd := sc.nd
  refine Fn.of (k := 2) A sc (fun _ _ _ _ _ _ us hl => match us, hl with | [_, _], _ => rfl) rfl ?hc (fun f cdv A outer s H E hr =>
      (wss_cons (ws_set (i := 2) nd rfl (loc_of rfl) we_str)
      (wss_cons (ws_set (i := 3) nd rfl (loc_of rfl) (we_m1 l_split PySem.F.slot_str_split PySem.F.type_str_split mt_split we_str we_str))
      (wss_cons (ws_set (i := 4) nd rfl (loc_of rfl) (we_op op_addV l_add we_int (we_fn F__law_pick hr (by decide) rfl (wa_cons (we_var (pv 0)) (wa_cons we_int wa_nil)))))
      (wss_cons (ws_set (i := 5) nd rfl (loc_of rfl) (we_ix (ix_V (hu_of hr)) l_ix (we_var (pv 3)) (we_fn F__law_pick hr (by decide) rfl (wa_cons (we_var (pv 0)) (wa_cons we_int wa_nil))) (fun _ _ => rfl)))
      (wss_cons (ws_if (wt_cmp op_lt l_lt (we_var (pv 4)) we_int (nomark _)) (wss_one (ws_set (i := 5) nd rfl (loc_of rfl) (we_m1 l_join PySem.F.slot_str_join PySem.F.type_str_join mt_join we_str (we_lcR (own := [("k", 9)]) (p := (.nm 9)) rfl nd (wi_rng1 rfl B.range (wa_cons (we_var (pv 4)) wa_nil)) (blkOk_by (by rfl)) (fun _ _ _ _ _ => (pg_name (i := 9) nd rfl (loc_of rfl))) (fun _ _ _ _ _ => wts_nil) (fun _ _ _ _ _ => (we_ix (ix_V (hu_of hr)) l_ix (we_var (pv 2)) (we_fn F__law_pick hr (by decide) rfl (wa_cons (we_var (pv 0)) (wa_cons we_int wa_nil))) (fun _ _ => rfl))))))) wss_nil)
      (wss_wipe [] (wss_cons (ws_set (i := 6) nd rfl (loc_of rfl) (we_op op_addV l_add (we_lst (wa_cons (we_var (pv 5)) wa_nil)) (we_lc (own := [("sign", 7)]) (p := (.nm 7)) rfl nd (wi_str (we_var (pv 2))) (blkOk_by (by rfl)) (fun _ _ _ _ _ => (pg_name (i := 7) nd rfl (loc_of rfl))) (fun _ _ _ _ _ => wts_nil) (fun _ _ _ _ _ => (we_op op_addV l_add (we_sl (we_var (pv 5)) wo_none (wo_some we_int)) (we_var (pv 7)))))))
      (wss_one (ws_ret (we_ix (ix_V (hu_of hr)) l_ix (we_lc (own := [("one", 8)]) (p := (.nm 8)) rfl nd (wi_seq (we_var (pv 6))) (blkOk_by (by rfl)) (fun _ _ _ _ _ => (pg_name (i := 8) nd rfl (loc_of rfl))) (fun _ _ _ _ _ => wts_one (wt_cmp (op_notInV (hu_of hr)) l_notIn (we_var (pv 8)) (we_var (pv 1)) rfl)) (fun _ _ _ _ _ => (we_var (pv 8)))) we_int (fun _ _ => rfl)))))))))))) ?hs
  case hc => walk_at "cst"
  case hs =>
    intro ts Q hl h
    obtain ⟨told, R, rfl, i, h⟩ := h
    refine rw_pure (ρ := [some (T.fr D.rng), some (tF false D.str told), none, none, none, none, none, none, none, none]) (e := fun r => D.str r) (rw_end (rw_assoc (rw_let0 (ρ1 := (fun (letters : Tx) => [some (T.fr D.rng), some (tF false D.str told), some (T.fr (D.str letters)), none, none, none, none, none, none, none])) (tl ("abcdefghijklmnopqrstuvwxyz" : Str)) (sn_set (d := D.str (tl ("abcdefghijklmnopqrstuvwxyz" : Str))) ep_c rfl) fun letters => (rw_assoc (rw_let (ρ1 := (fun (words : (List Tx)) => [some (T.fr D.rng), some (tF false D.str told), some (T.fr (D.str letters)), some (T.fr ((eL D.str) words)), none, none, none, none, none, none])) (splitC 32 (tl ("to by from desk line gate kind time open pace eldest rank meet turns" : Str))) (sn_set (d := (eL D.str) (splitC 32 (tl ("to by from desk line gate kind time open pace eldest rank meet turns" : Str)))) (ep_m1 ep_c ep_c (o_split k__32_)) rfl) fun words => (rw_assoc (rw_seq (ρ1 := (fun (size : Int) => [some (T.fr D.rng), some (tF false D.str told), some (T.fr (D.str letters)), some (T.fr ((eL D.str) words)), some (T.fr (D.int size)), none, none, none, none, none])) (sw_set (e := D.int) (ew2_0 (τa := (fr D.int)) (τb := (fr D.int)) (τc := (fr D.int)) (f := (fun (a3 : Int) (b4 : Int) => (a3 + b4))) (ew_p0 (τ := (fr D.int)) (a := (1 : Int)) ep_c) (ew_fn (e := D.int) (ν := fun (q1 : Unit) => m__law_pick (9 : Int)) (τs := fun (q1 : Unit) => [(T.fr D.rng), (T.fr (D.int (9 : Int)))]) (ts' := fun (q1 : Unit) => [(T.fr D.rng), (T.fr (D.int (9 : Int)))]) (ews_p0 (eps_cons (ep_var (i := 0) rfl) (eps_cons ep_c eps_nil))) (fun _ => rfl) (fun _ => rfl) (fun q1 P Q i h => ⟨(9 : Int), Q, rfl, i, h⟩)) (fun a3 b4 => o_add)) (fun _ => rfl)) fun size => (rw_assoc (rw_seq (ρ1 := (fun (name : Tx) => [some (T.fr D.rng), some (tF false D.str told), some (T.fr (D.str letters)), some (T.fr ((eL D.str) words)), some (T.fr (D.int size)), some (T.fr (D.str name)), none, none, none, none])) (sw_set (e := D.str) (ew2 (τa := (fr (eL D.str))) (τb := fr D.int) (τc := (fr D.str)) (f := fun (a5 : (List Tx)) (b6 : Int) => ((atI a5 b6).getD default)) (ew_p0 (τ := (fr (eL D.str))) (a := words) (ep_var (i := 3) rfl)) (ew_fn (e := D.int) (ν := fun (q7 : Unit) => m__law_pick (14 : Int)) (τs := fun (q7 : Unit) => [(T.fr D.rng), (T.fr (D.int (14 : Int)))]) (ts' := fun (q7 : Unit) => [(T.fr D.rng), (T.fr (D.int (14 : Int)))]) (ews_p0 (eps_cons (ep_var (i := 0) rfl) (eps_cons ep_c eps_nil))) (fun _ => rfl) (fun _ => rfl) (fun q7 P Q i h => ⟨(14 : Int), Q, rfl, i, h⟩)) (fun _ b => o_ix il_L.is b)) (fun _ => rfl)) fun name => (rw_assoc (rw_wa (rw_join (vs := []) (R := (fun (s9 : Tx) => [some (T.fr D.rng), some (tF false D.str told), some (T.fr (D.str letters)), some (T.fr ((eL D.str) words)), some (T.fr (D.int size)), some (T.fr (D.str s9)), none, none, none, none])) (rw_end (rw_if (ebw_p0 (b := (decide (size < (9 : Int)))) (eb_val (ep2 (ep_var (i := 4) rfl) ep_c o_I0))) (rw_seq (ρ1 := (fun (name : Tx) => [some (T.fr D.rng), some (tF false D.str told), some (T.fr (D.str letters)), some (T.fr ((eL D.str) words)), some (T.fr (D.int size)), some (T.fr (D.str name)), none, none, none, none])) (sw_set (e := D.str) (ew_m1 (τb := (fr (eL D.str))) (τc := fr D.str) (f := fun b16 => (joinL (tl ("" : Str)) b16)) ep_c (ew_lc (oC := (fun xs => [xs.length ≤ sizeLine])) (e := D.str) (ρb := fun (x10 : Int) => [some (T.fr D.rng), some (tF false D.str told), some (T.fr (D.str letters)), some (T.fr ((eL D.str) words)), some (T.fr (D.int size)), some (T.fr (D.str name)), none, none, none, some (T.fr (D.int x10))]) (eiw_p (τ := (fr D.int)) (xs := (upI 0 (size).toNat)) (ei_rng1 (eps_cons (ep_var (i := 4) rfl) eps_nil))) hCw_R (fun _ => rfl) (fun x10 => (ew2 (τa := fr D.str) (τb := fr D.int) (τc := fr D.str) (f := fun (a11 : Tx) (b12 : Int) => [(atI a11 b12).getD default]) (ew_p0 (τ := (fr D.str)) (a := letters) (ep_var (i := 2) rfl)) (ew_fn (e := D.int) (ν := fun (q13 : Unit) => m__law_pick (26 : Int)) (τs := fun (q13 : Unit) => [(T.fr D.rng), (T.fr (D.int (26 : Int)))]) (ts' := fun (q13 : Unit) => [(T.fr D.rng), (T.fr (D.int (26 : Int)))]) (ews_p0 (eps_cons (ep_var (i := 0) rfl) (eps_cons ep_c eps_nil))) (fun _ => rfl) (fun _ => rfl) (fun q13 P Q i h => ⟨(26 : Int), Q, rfl, i, h⟩)) (fun _ b => o_ixS b)))) (fun _ => o_join il_L.is)) (fun _ => rfl)) fun name => (rw_p0 (rg_nx (m := name) (fun E h => h _ rfl)))) (rw_p0 (rg_skip (rg_nx (m := name) (fun E h => h _ rfl)))))) fun s9 => (rw_p (rg_assoc (rg_let (ρ1 := (fun (some_ : (List Tx)) => [some (T.fr D.rng), some (tF false D.str told), some (T.fr (D.str letters)), some (T.fr ((eL D.str) words)), some (T.fr (D.int size)), some (T.fr (D.str s9)), some (T.fr ((eL D.str) some_)), none, none, none])) ([s9] ++ (letters.map fun (x17 : Nat) => ((cut s9 none (some (7 : Int))) ++ [x17]))) (sn_set (d := (eL D.str) ([s9] ++ (letters.map fun (x17 : Nat) => ((cut s9 none (some (7 : Int))) ++ [x17])))) (ep2 (ep_lstE (d := eL D.str [s9]) (eps_cons (ep_var (i := 5) rfl) eps_nil) rfl rfl) (ep_map (oC := []) (e := D.str) (f := (fun x17 => ((cut s9 none (some (7 : Int))) ++ [x17]))) (ρb := fun x17 => [some (T.fr D.rng), some (tF false D.str told), some (T.fr (D.str letters)), some (T.fr ((eL D.str) words)), some (T.fr (D.int size)), some (T.fr (D.str s9)), none, some (T.fr (eSg x17)), none, none]) (ei_str (ep_var (i := 2) rfl)) hC_T (fun _ => rfl) (fun x17 => (ep2 (ep_sl (ep_var (i := 5) rfl) eo_no (eo_some ep_c) s_S) (ep_var (i := 7) rfl) o_addS))) o_addL) rfl) fun some_ => (rg_ret (m := ((atI ((some_.filter fun (x18 : Tx) => (!(memB x18 told))).map fun (x18 : Tx) => x18) (0 : Int)).getD default)) (t := (T.fr (D.str ((atI ((some_.filter fun (x18 : Tx) => (!(memB x18 told))).map fun (x18 : Tx) => x18) (0 : Int)).getD default)))) (ep2 (ep_lc0 (oC := []) (e := D.str) (f := (fun x18 => x18)) (c := (fun x18 => (!(memB x18 told)))) (ρb := fun x18 => [some (T.fr D.rng), some (tF false D.str told), some (T.fr (D.str letters)), some (T.fr ((eL D.str) words)), some (T.fr (D.int size)), some (T.fr (D.str s9)), some (T.fr ((eL D.str) some_)), none, some (T.fr (D.str x18)), none]) (ei_seq (ep_var (i := 6) rfl) il_L.is) hC_T (fun _ => rfl) (fun x18 => (eb_val (ep2 (ep_var (i := 8) rfl) (ep_var (i := 1) rfl) (o_notIn fl_str il_F.is x18)))) (fun x18 => (ep_var (i := 8) rfl))) ep_c (o_ix il_L.is (0 : Int))) (fun _ h => h _))))))))))))))))) i ?_
    exact h
def m__law_spelt_all_st1 (s1 : (List Tx)) (x2 : Int) : WPt (List Tx) :=
  fun P => m__law_spelt s1 fun (d4 : Tx) => s1.length < sizeLine ∧ (let e5 : Tx := d4
  P ((s1 ++ [e5])))
def m__law_spelt_all (many : Int) : WPt (List Tx) := fun P =>
  let names : (List Tx) := ([] : List Tx)
  All [-(2 ^ 62) ≤ many ∧ many < 2 ^ 62] ∧ (loopWN (m__law_spelt_all_st1) (upI 0 (many).toNat) names fun (s1 : (List Tx)) => P (s1))
def S__law_spelt_all : List T → (D → Prop) → Prop := fun ts P => ∃ many : Int, ∃ R : (List Tx) → Prop, ts = [(T.fr D.rng), (T.fr (D.int many))] ∧ (∀ r, R r → P ((eL D.str) r)) ∧ m__law_spelt_all many R
theorem fn__law_spelt_all (A : At K mg "_law_spelt_all" "_law_spelt_all" s__law_spelt_all) (B : Bl mg) (F__law_spelt : Fn P w K mg base "_law_spelt" 3 2 (2 ^ 63) S__law_spelt) : Fn P w K mg base "_law_spelt_all" 4 2 (2 ^ 126) S__law_spelt_all := by
  have sc : FnScope ["left", "many", "names", "k"] ["left", "many"] (defScope s__law_spelt_all) := ⟨rfl, rfl, rfl, by decide +kernel, rfl, by decide +kernel, by decide +kernel⟩
  have nd := sc.nd
  refine Fn.of (k := 3) A sc (fun _ _ _ _ _ _ us hl => match us, hl with | [_, _], _ => rfl) rfl ?hc (fun f cdv A outer s H E hr =>
      (wss_cons (ws_own (i := 2) nd rfl (loc_of rfl) (wn_lst wa_nil) (by decide))
      (wss_cons (ws_forV [3] (p := (.nm 3)) PassesOwn.never rfl (wi_rng1 rfl B.range (wa_cons (we_var (pv 1)) wa_nil)) (pg_name (i := 3) nd rfl (loc_of rfl))
      (wss_one (ws_append (i := 2) (pv 2) (we_fn F__law_spelt hr (by decide) rfl (wa_cons (we_var (pv 0)) (wa_cons (we_var (pv 2)) wa_nil))))))
      (wss_wipe [3] (wss_one (ws_retOwn (pv 2))))))) ?hs
  case hc => walk_at "cst"
  case hs =>
    intro ts Q hl h
    obtain ⟨many, R, rfl, i, h⟩ := h
    refine rw_pure (ρ := [some (T.fr D.rng), some (T.fr (D.int many)), none, none]) (e := fun r => (eL D.str) r) (rw_end (rw_assoc (rw_let0 (ρ1 := (fun (names : (List Tx)) => [some (T.fr D.rng), some (T.fr (D.int many)), some (tF true D.str names), none])) ([] : List Tx) (sn_own (e := D.str) ([] : List Tx) (en_lst (ds := []) eps_nil rfl rfl) rfl rfl) fun names => (rw_assoc (rw_wa (rw_forN (S := (List Tx)) (vs := [3]) (R := (fun (s1 : (List Tx)) => [some (T.fr D.rng), some (T.fr (D.int many)), some (tF true D.str s1), none])) (ρb := (fun (s1 : (List Tx)) (x2 : Int) => [some (T.fr D.rng), some (T.fr (D.int many)), some (tF true D.str s1), some (T.fr (D.int x2))])) names (eiw_p (τ := (fr D.int)) (xs := (upI 0 (many).toNat)) (ei_rng1 (eps_cons (ep_var (i := 1) rfl) eps_nil))) rfl (fun _ _ => rfl) (fun s1 x2 => (rw_end (rw_seq (ρ1 := (fun (e5 : Tx) => [some (T.fr D.rng), some (T.fr (D.int many)), some (tF true D.str (s1 ++ [e5])), some (T.fr (D.int x2))])) (sw_app (e := D.str) (xs := s1) rfl (ew_fn (e := D.str) (ν := fun (q3 : Unit) => m__law_spelt s1) (τs := fun (q3 : Unit) => [(T.fr D.rng), (tF true D.str s1)]) (ts' := fun (q3 : Unit) => [(T.fr D.rng), (tF false D.str s1)]) (ews_p0 (eps_cons (ep_var (i := 0) rfl) (eps_cons (ep_var (i := 2) rfl) eps_nil))) (fun _ => (by simp only [T.lends, T.lend, lend_tF, lend_tL, lend_tDS, lend_tDI, lend_tDP])) (fun _ => rfl) (fun q3 P Q i h => ⟨s1, Q, rfl, i, h⟩)) (fun _ => rfl)) fun e5 => (rw_p0 (rg_nx (m := (s1 ++ [e5])) (fun E h => h _ rfl)))))) fun s1 => (rw_p0 (rg_retOwn (m := s1) (i := 2) (e := D.str) (xs := s1) rfl (fun _ h => h _))))))))) i ?_
    exact h
def f__law_same (found : (Option Int)) (due : (Option Int)) : Bool :=
  if (due.isSome && false) = true then
  (default)
  else
  (if (due.isNone || (due.isSome && false)) = true then
  (((decide (found = due)) && (decide ((found.isSome && false) = (due.isSome && false)))))
  else
  (((found.isSome && true) && ((!(found.isSome && false)) && (decide (found = due))))))
def ok__law_same (found : (Option Int)) (due : (Option Int)) : Prop :=
  All [(if (due.isSome && false) = true then All [False] else True)]
def S__law_same : List T → (D → Prop) → Prop := fun ts P => ∃ found : (Option Int), ∃ due : (Option Int), ts = [(T.fr ((eO D.int) found)), (T.fr ((eO D.int) due))] ∧ ok__law_same found due ∧ P (D.bl (f__law_same found due))
theorem fn__law_same (A : At K mg "_law_same" "_law_same" s__law_same) (B : Bl mg) : Fn P w K mg base "_law_same" 1 2 (0) S__law_same := by
  have sc : FnScope ["found", "due", "one", "other"] ["found", "due"] (defScope s__law_same) := ⟨rfl, rfl, rfl, by decide +kernel, rfl, by decide +kernel, by decide +kernel⟩
  have nd := sc.nd
  refine Fn.of (k := 0) A sc (fun _ _ _ _ _ _ us hl => match us, hl with | [_, _], _ => rfl) rfl ?hc (fun f cdv A outer s H E hr =>
      (wss_cons (ws_if (wt_val (we_isa2 (b := .list) (b' := .tuple) (by decide +kernel) (by decide +kernel) (we_var (pv 1)) rfl B.isinstance rfl B.list rfl B.tuple)) wss_never wss_nil)
      (wss_cons (ws_if (wt_ww (ww_or (wt_cmp op_isN l_isN (we_var (pv 1)) we_non (nomark _)) (ww_one (wt_val (we_isa (b := .str) (by decide +kernel) (we_var (pv 1)) rfl B.isinstance rfl B.str)) (.inr rfl)))) (wss_one (ws_ret (we_and (we_cmp (op_eqD hr.units) l_eq (we_var (pv 0)) (we_var (pv 1)) (nomark _)) (we_one (we_cmp (op_eqD hr.units) l_eq (we_isa (b := .str) (by decide +kernel) (we_var (pv 0)) rfl B.isinstance rfl B.str) (we_isa (b := .str) (by decide +kernel) (we_var (pv 1)) rfl B.isinstance rfl B.str) (nomark _)))))) wss_nil)
      (wss_one (ws_ret (we_and (we_isa (b := .int) (by decide +kernel) (we_var (pv 0)) rfl B.isinstance rfl B.int) (we_and (we_not (we_isa (b := .bool) (by decide +kernel) (we_var (pv 0)) rfl B.isinstance rfl B.bool)) (we_one (we_cmp (op_eqD hr.units) l_eq (we_var (pv 0)) (we_var (pv 1)) (nomark _)))))))))) ?hs
  case hc => walk_at "cst"
  case hs =>
    intro ts Q hl h
    obtain ⟨found, due, rfl, ok, h⟩ := h
    refine rg_pure (ρ := [some (T.fr ((eO D.int) found)), some (T.fr ((eO D.int) due)), none, none]) (e := fun r => D.bl r) (rg_end (rg_assoc (rg_if (c := (due.isSome && false)) (eb_val (ep1 (ep_var (i := 1) rfl) (o_isaOI rfl rfl))) (rg_never (m := default)) (rg_skip (rg_assoc (rg_if0 (c := (due.isNone || (due.isSome && false))) (eb_or (eb_val (ep2 (ep_var (i := 1) rfl) ep_c (o_isN nn_int _))) (eb_val (ep1 (ep_var (i := 1) rfl) (o_isaOI rfl rfl)))) (rg_ret (m := ((decide (found = due)) && (decide ((found.isSome && false) = (due.isSome && false))))) (t := (T.fr (D.bl ((decide (found = due)) && (decide ((found.isSome && false) = (due.isSome && false))))))) (ep_and (ep2 (ep_var (i := 0) rfl) (ep_var (i := 1) rfl) (o_eq (eq_O eq_int nn_int) found due)) (ep2 (ep1 (ep_var (i := 0) rfl) (o_isaOI rfl rfl)) (ep1 (ep_var (i := 1) rfl) (o_isaOI rfl rfl)) (o_eq eq_bl (found.isSome && false) (due.isSome && false)))) (fun _ h => h _)) (rg_skip (rg_ret (m := ((found.isSome && true) && ((!(found.isSome && false)) && (decide (found = due))))) (t := (T.fr (D.bl ((found.isSome && true) && ((!(found.isSome && false)) && (decide (found = due))))))) (ep_and (ep1 (ep_var (i := 0) rfl) (o_isaOI rfl rfl)) (ep_and (ep_not (ep1 (ep_var (i := 0) rfl) (o_isaOI rfl rfl))) (ep2 (ep_var (i := 0) rfl) (ep_var (i := 1) rfl) (o_eq (eq_O eq_int nn_int) found due)))) (fun _ h => h _))))))))) ?_ ?_
    · exact ok
    · exact h
def f__law_earliest (pace : (Tx × Int × Int)) (times : (List Int)) : Int :=
  let q1 : (Tx × Int × Int) := pace
  (([(0 : Int)] ++ ((enumL 0 times).map fun (x2 : (Int × Int)) => (x2.2 + (((((times.length : Int) - x2.1) + (1 : Int)) - q1.2.1) * q1.2.2)))).max?.getD 0)
def ok__law_earliest (pace : (Tx × Int × Int)) (times : (List Int)) : Prop :=
  All [(let q1 : (Tx × Int × Int) := pace
  All [∀ x2 ∈ (enumL 0 times), All [CMul ((((times.length : Int) - x2.1) + (1 : Int)) - q1.2.1) q1.2.2],
  [(0 : Int)].length + ((enumL 0 times).map fun (x2 : (Int × Int)) => (x2.2 + (((((times.length : Int) - x2.1) + (1 : Int)) - q1.2.1) * q1.2.2))).length ≤ sizeLine,
  ([(0 : Int)] ++ ((enumL 0 times).map fun (x2 : (Int × Int)) => (x2.2 + (((((times.length : Int) - x2.1) + (1 : Int)) - q1.2.1) * q1.2.2)))).max?.isSome = true])]
def S__law_earliest : List T → (D → Prop) → Prop := fun ts P => ∃ pace : (Tx × Int × Int), ∃ times : (List Int), ts = [(T.fr ((eT3 D.str D.int D.int) pace)), (tF false D.int times)] ∧ ok__law_earliest pace times ∧ P (D.int (f__law_earliest pace times))
theorem fn__law_earliest (A : At K mg "_law_earliest" "_law_earliest" s__law_earliest) (B : Bl mg) : Fn P w K mg base "_law_earliest" 1 2 (0) S__law_earliest := by
  have sc : FnScope ["pace", "times", "kind", "burst", "gap", "k", "time"] ["pace", "times"] (defScope s__law_earliest) := ⟨rfl, rfl, rfl, by decide +kernel, rfl, by decide +kernel, by decide +kernel⟩
  have nd := sc.nd
  refine Fn.of (k := 0) A sc (fun _ _ _ _ _ _ us hl => match us, hl with | [_, _], _ => rfl) rfl ?hc (fun f cdv A outer s H E hr =>
      (wss_cons (ws_unp (p := (.tu (.cons (.nm 2) (.cons (.nm 3) (.cons (.nm 4) .nil))))) (we_var (pv 0)) (pg_tup rfl (pgs_cons (pg_name (i := 2) nd rfl (loc_of rfl)) (pgs_cons (pg_name (i := 3) nd rfl (loc_of rfl)) (pgs_cons (pg_name (i := 4) nd rfl (loc_of rfl)) pgs_nil)))))
      (wss_one (ws_ret (we_callB (call_maxV rfl) l_maxV rfl B.max (by decide +kernel) (wa_cons (we_op op_addV l_add (we_lst (wa_cons we_int wa_nil)) (we_lc (own := [("k", 5), ("time", 6)]) (p := (.tu (.cons (.nm 5) (.cons (.nm 6) .nil)))) rfl nd (wi_enum rfl B.enumerate (wa_cons (we_var (pv 1)) wa_nil)) (blkOk_by (by rfl)) (fun _ _ _ _ _ => (pg_tup rfl (pgs_cons (pg_name (i := 5) nd rfl (loc_of rfl)) (pgs_cons (pg_name (i := 6) nd rfl (loc_of rfl)) pgs_nil)))) (fun _ _ _ _ _ => wts_nil) (fun _ _ _ _ _ => (we_op op_addV l_add (we_var (pv 6)) (we_op op_mul l_mul (we_op op_sub l_sub (we_op op_addV l_add (we_op op_sub l_sub (we_callB call_lenV l_len rfl B.len (by decide +kernel) (wa_cons (we_var (pv 1)) wa_nil)) (we_var (pv 5))) we_int) (we_var (pv 3))) (we_var (pv 4))))))) wa_nil)))))) ?hs
  case hc => walk_at "cst"
  case hs =>
    intro ts Q hl h
    obtain ⟨pace, times, rfl, ok, h⟩ := h
    refine rg_pure (ρ := [some (T.fr ((eT3 D.str D.int D.int) pace)), some (tF false D.int times), none, none, none, none, none]) (e := fun r => D.int r) (rg_end (rg_assoc (rg_let (ρ1 := (fun (q1 : (Tx × Int × Int)) => [some (T.fr ((eT3 D.str D.int D.int) pace)), some (tF false D.int times), some (T.fr (D.str q1.1)), some (T.fr (D.int q1.2.1)), some (T.fr (D.int q1.2.2)), none, none])) pace (sn_unp (t := (T.fr ((eT3 D.str D.int D.int) pace))) (ep_var (i := 0) rfl) (lent_fr _) rfl) fun q1 => (rg_ret (m := (([(0 : Int)] ++ ((enumL 0 times).map fun (x2 : (Int × Int)) => (x2.2 + (((((times.length : Int) - x2.1) + (1 : Int)) - q1.2.1) * q1.2.2)))).max?.getD 0)) (t := (T.fr (D.int (([(0 : Int)] ++ ((enumL 0 times).map fun (x2 : (Int × Int)) => (x2.2 + (((((times.length : Int) - x2.1) + (1 : Int)) - q1.2.1) * q1.2.2)))).max?.getD 0)))) (epn (eps_cons (ep2 (ep_lstE (d := eL D.int [(0 : Int)]) (eps_cons ep_c eps_nil) rfl rfl) (ep_map (oC := []) (e := D.int) (f := (fun x2 => (x2.2 + (((((times.length : Int) - x2.1) + (1 : Int)) - q1.2.1) * q1.2.2)))) (ρb := fun x2 => [some (T.fr ((eT3 D.str D.int D.int) pace)), some (tF false D.int times), some (T.fr (D.str q1.1)), some (T.fr (D.int q1.2.1)), some (T.fr (D.int q1.2.2)), some (T.fr (D.int x2.1)), some (T.fr (D.int x2.2))]) (ei_enum (eps_cons (ep_var (i := 1) rfl) eps_nil) il_F) hC_T (fun _ => rfl) (fun x2 => (ep2 (ep_var (i := 6) rfl) (ep2 (ep2 (ep2 (ep2 (epn (eps_cons (ep_var (i := 1) rfl) eps_nil) (o_len il_F.is)) (ep_var (i := 5) rfl) o_sub) ep_c o_add) (ep_var (i := 3) rfl) o_sub) (ep_var (i := 4) rfl) o_I) o_add))) o_addL) eps_nil) (o_max ii_L)) (fun _ h => h _))))) ?_ ?_
    · exact ok
    · exact h
def m__law_plant_st1 (q23 : ((List Tx) × ((List Tx) × Unit))) (paces : (List (Tx × Tx × Int × Int))) (s24 : (List (Tx × Tx × Int × Int))) (x25 : Tx) : WPt (List (Tx × Tx × Int × Int)) :=
  fun P => m__law_pick (2 : Int) fun (d29 : Int) => All [(atI [(4 : Int), (60 : Int)] d29).isSome = true] ∧ (let most : Int := ((atI [(4 : Int), (60 : Int)] d29).getD default)
  m__law_pick (q23.2.1.length : Int) fun (d43 : Int) => All [(atI q23.2.1 d43).isSome = true] ∧ (m__law_pick most fun (d36 : Int) => m__law_pick (60 : Int) fun (d31 : Int) => let pace : (Tx × Tx × Int × Int) := (x25, ((atI q23.2.1 d43).getD default), ((1 : Int) + d36), ((1 : Int) + d31))
  m__law_pick (6 : Int) fun (d47 : Int) => if (decide ((0 : Int) < d47)) = true then
  (All [s24.length < sizeLine] ∧ P (let paces : (List (Tx × Tx × Int × Int)) := (s24 ++ [pace])
  paces))
  else
  (P (s24))))
def m__law_plant  : WPt (List Tx × List Tx × List (Tx × Tx × Int × Int) × Tx) := fun P =>
  m__law_pick (11 : Int) fun (d2 : Int) => let many : Int := ((1 : Int) + d2)
  m__law_spelt_all many fun (d20 : (List Tx)) => m__law_pick (2 : Int) fun (d12 : Int) => m__law_spelt_all ((1 : Int) + d12) fun (d17 : (List Tx)) => let q23 : ((List Tx) × ((List Tx) × Unit)) := (d20, (d17, ()))
  let paces : (List (Tx × Tx × Int × Int)) := ([] : List (Tx × Tx × Int × Int))
  loopWN (m__law_plant_st1 q23 paces) q23.1 paces fun (s24 : (List (Tx × Tx × Int × Int))) => All [∀ x50 ∈ q23.2.1, All [(tl ("kind " : Str)).length + x50.length ≤ sizeLine,
  ((tl ("kind " : Str)) ++ x50).length + (tl (" -" : Str)).length ≤ sizeLine],
  ∀ x51 ∈ q23.1, All [(tl ("gate " : Str)).length + x51.length ≤ sizeLine],
  (q23.2.1.map fun (x50 : Tx) => (((tl ("kind " : Str)) ++ x50) ++ (tl (" -" : Str)))).length + (q23.1.map fun (x51 : Tx) => ((tl ("gate " : Str)) ++ x51)).length ≤ sizeLine,
  (let rows : (List Tx) := ((q23.2.1.map fun (x50 : Tx) => (((tl ("kind " : Str)) ++ x50) ++ (tl (" -" : Str)))) ++ (q23.1.map fun (x51 : Tx) => ((tl ("gate " : Str)) ++ x51)))
  All [∀ x52 ∈ s24, All [StrOk x52.2.2.1,
  StrOk x52.2.2.2,
  ([(tl ("pace" : Str)), x52.1, x52.2.1, (strI x52.2.2.1), (strI x52.2.2.2)].map (·.length)).sum + [(tl ("pace" : Str)), x52.1, x52.2.1, (strI x52.2.2.1), (strI x52.2.2.2)].length * (tl (" " : Str)).length ≤ 16777216],
  rows.length + (s24.map fun (x52 : (Tx × Tx × Int × Int)) => (joinL (tl (" " : Str)) [(tl ("pace" : Str)), x52.1, x52.2.1, (strI x52.2.2.1), (strI x52.2.2.2)])).length ≤ sizeLine,
  (let rows : (List Tx) := (rows ++ (s24.map fun (x52 : (Tx × Tx × Int × Int)) => (joinL (tl (" " : Str)) [(tl ("pace" : Str)), x52.1, x52.2.1, (strI x52.2.2.1), (strI x52.2.2.2)])))
  All [((s24.map fun (x53 : (Tx × Tx × Int × Int)) => (x53.1, (x53.2.1, x53.2.2.1, x53.2.2.2))).map (·.1)).Nodup,
  (let own : (List (Tx × (Tx × Int × Int))) := (s24.map fun (x53 : (Tx × Tx × Int × Int)) => (x53.1, (x53.2.1, x53.2.2.1, x53.2.2.2)))
  All [(rows.map (·.length)).sum + rows.length * (tl ("\n" : Str)).length ≤ 16777216])])])] ∧ P (let rows : (List Tx) := ((q23.2.1.map fun (x50 : Tx) => (((tl ("kind " : Str)) ++ x50) ++ (tl (" -" : Str)))) ++ (q23.1.map fun (x51 : Tx) => ((tl ("gate " : Str)) ++ x51)))
  let rows : (List Tx) := (rows ++ (s24.map fun (x52 : (Tx × Tx × Int × Int)) => (joinL (tl (" " : Str)) [(tl ("pace" : Str)), x52.1, x52.2.1, (strI x52.2.2.1), (strI x52.2.2.2)])))
  let own : (List (Tx × (Tx × Int × Int))) := (s24.map fun (x53 : (Tx × Tx × Int × Int)) => (x53.1, (x53.2.1, x53.2.2.1, x53.2.2.2)))
  (q23.1, q23.2.1, own, (joinL (tl ("\n" : Str)) rows)))
def S__law_plant : List T → (D → Prop) → Prop := fun ts P => ∃ R : (List Tx × List Tx × List (Tx × Tx × Int × Int) × Tx) → Prop, ts = [(T.fr D.rng)] ∧ (∀ r, R r → P (eH67 r)) ∧ m__law_plant  R
theorem fn__law_plant (A : At K mg "_law_plant" "_law_plant" s__law_plant) (B : Bl mg) (F__law_pick : Fn P w K mg base "_law_pick" 2 2 (1) S__law_pickT) (F__law_spelt_all : Fn P w K mg base "_law_spelt_all" 4 2 (2 ^ 126) S__law_spelt_all) : Fn P w K mg base "_law_plant" 5 1 (2 ^ 130) S__law_plant := by
  have sc : FnScope ["left", "many", "paces", "gate", "rows", "own", "gates", "kinds", "most", "pace", "kind", "burst", "gap"] ["left"] (defScope s__law_plant) := ⟨rfl, rfl, rfl, by decide +kernel, rfl, by decide +kernel, by decide +kernel⟩
  have nd := sc.nd
  refine Fn.of (k := 4) A sc (fun _ _ _ _ _ _ us hl => match us, hl with | [_], _ => rfl) rfl ?hc (fun f cdv A outer s H E hr =>
      (wss_cons (ws_set (i := 1) nd rfl (loc_of rfl) (we_op op_addV l_add we_int (we_fn F__law_pick hr (by decide) rfl (wa_cons (we_var (pv 0)) (wa_cons we_int wa_nil)))))
      (wss_cons (ws_par (i := 6) (j := 7) rfl nd rfl rfl (by decide) rfl rfl (wa_cons (we_fn F__law_spelt_all hr (by decide) rfl (wa_cons (we_var (pv 0)) (wa_cons (we_var (pv 1)) wa_nil))) (wa_cons (we_fn F__law_spelt_all hr (by decide) rfl (wa_cons (we_var (pv 0)) (wa_cons (we_op op_addV l_add we_int (we_fn F__law_pick hr (by decide) rfl (wa_cons (we_var (pv 0)) (wa_cons we_int wa_nil)))) wa_nil))) wa_nil)) rfl)
      (wss_cons (ws_own (i := 2) nd rfl (loc_of rfl) (wn_lst wa_nil) (by decide))
      (wss_cons (ws_forV [3, 8, 9] (p := (.nm 3)) PassesOwn.never rfl (wi_seq (we_var (pv 6))) (pg_name (i := 3) nd rfl (loc_of rfl))
      (wss_cons (ws_set (i := 8) nd rfl (loc_of rfl) (we_ix (ix_V (hu_of hr)) l_ix (we_lst (wa_cons we_int (wa_cons we_int wa_nil))) (we_fn F__law_pick hr (by decide) rfl (wa_cons (we_var (pv 0)) (wa_cons we_int wa_nil))) (fun _ _ => rfl)))
      (wss_cons (ws_set (i := 9) nd rfl (loc_of rfl) (we_tup (wa_cons (we_var (pv 3)) (wa_cons (we_ix (ix_V (hu_of hr)) l_ix (we_var (pv 7)) (we_fn F__law_pick hr (by decide) rfl (wa_cons (we_var (pv 0)) (wa_cons (we_callB call_lenV l_len rfl B.len (by decide +kernel) (wa_cons (we_var (pv 7)) wa_nil)) wa_nil))) (fun _ _ => rfl)) (wa_cons (we_op op_addV l_add we_int (we_fn F__law_pick hr (by decide) rfl (wa_cons (we_var (pv 0)) (wa_cons (we_var (pv 8)) wa_nil)))) (wa_cons (we_op op_addV l_add we_int (we_fn F__law_pick hr (by decide) rfl (wa_cons (we_var (pv 0)) (wa_cons we_int wa_nil)))) wa_nil))))))
      (wss_one (ws_if (wt_cmp op_gt l_gt (we_fn F__law_pick hr (by decide) rfl (wa_cons (we_var (pv 0)) (wa_cons we_int wa_nil))) we_int (nomark _)) (wss_one (ws_append (i := 2) (pv 2) (we_var (pv 9)))) wss_nil)))))
      (wss_wipe [3, 8, 9] (wss_cons (ws_set (i := 4) nd rfl (loc_of rfl) (we_op op_addV l_add (we_lc (own := [("kind", 10)]) (p := (.nm 10)) rfl nd (wi_seq (we_var (pv 7))) (blkOk_by (by rfl)) (fun _ _ _ _ _ => (pg_name (i := 10) nd rfl (loc_of rfl))) (fun _ _ _ _ _ => wts_nil) (fun _ _ _ _ _ => (we_op op_addV l_add (we_op op_addV l_add we_str (we_var (pv 10))) we_str))) (we_lc (own := [("gate", 3)]) (p := (.nm 3)) rfl nd (wi_seq (we_var (pv 6))) (blkOk_by (by rfl)) (fun _ _ _ _ _ => (pg_name (i := 3) nd rfl (loc_of rfl))) (fun _ _ _ _ _ => wts_nil) (fun _ _ _ _ _ => (we_op op_addV l_add we_str (we_var (pv 3)))))))
      (wss_cons (ws_set (i := 4) nd rfl (loc_of rfl) (we_op op_addV l_add (we_var (pv 4)) (we_lc (own := [("gate", 3), ("kind", 10), ("burst", 11), ("gap", 12)]) (p := (.tu (.cons (.nm 3) (.cons (.nm 10) (.cons (.nm 11) (.cons (.nm 12) .nil)))))) rfl nd (wi_seq (we_var (pv 2))) (blkOk_by (by rfl)) (fun _ _ _ _ _ => (pg_tup rfl (pgs_cons (pg_name (i := 3) nd rfl (loc_of rfl)) (pgs_cons (pg_name (i := 10) nd rfl (loc_of rfl)) (pgs_cons (pg_name (i := 11) nd rfl (loc_of rfl)) (pgs_cons (pg_name (i := 12) nd rfl (loc_of rfl)) pgs_nil)))))) (fun _ _ _ _ _ => wts_nil) (fun _ _ _ _ _ => (we_m1 l_join PySem.F.slot_str_join PySem.F.type_str_join mt_join we_str (we_lst (wa_cons we_str (wa_cons (we_var (pv 3)) (wa_cons (we_var (pv 10)) (wa_cons (we_callTy call_str_int l_str rfl B.str (by decide +kernel) (wa_cons (we_var (pv 11)) wa_nil)) (wa_cons (we_callTy call_str_int l_str rfl B.str (by decide +kernel) (wa_cons (we_var (pv 12)) wa_nil)) wa_nil)))))))))))
      (wss_cons (ws_set (i := 5) nd rfl (loc_of rfl) (we_frz (wk_dict rfl rfl B.dict (wk_we (we_lc (own := [("pace", 9)]) (p := (.nm 9)) rfl nd (wi_seq (we_var (pv 2))) (blkOk_by (by rfl)) (fun _ _ _ _ _ => (pg_name (i := 9) nd rfl (loc_of rfl))) (fun _ _ _ _ _ => wts_nil) (fun _ _ _ _ _ => (we_tup (wa_cons (we_ix (ix_V (hu_of hr)) l_ix (we_var (pv 9)) we_int (fun _ _ => rfl)) (wa_cons (we_sl (we_var (pv 9)) (wo_some we_int) wo_none) wa_nil)))))))))
      (wss_one (ws_ret (we_frz (wk_disp (wps_cons we_str (wk_we (we_var (pv 6))) (wps_cons we_str (wk_we (we_var (pv 7))) (wps_cons we_str (wk_we (we_var (pv 5))) (wps_cons we_str (wk_we (we_m1 l_join PySem.F.slot_str_join PySem.F.type_str_join mt_join we_str (we_var (pv 4)))) wps_nil))))))))))))))))) ?hs
  case hc => walk_at "cst"
  case hs =>
    intro ts Q hl h
    obtain ⟨R, rfl, i, h⟩ := h
    refine rw_pure (ρ := [some (T.fr D.rng), none, none, none, none, none, none, none, none, none, none, none, none]) (e := fun r => eH67 r) (rw_end (rw_assoc (rw_seq (ρ1 := (fun (many : Int) => [some (T.fr D.rng), some (T.fr (D.int many)), none, none, none, none, none, none, none, none, none, none, none])) (sw_set (e := D.int) (ew2_0 (τa := (fr D.int)) (τb := (fr D.int)) (τc := (fr D.int)) (f := (fun (a3 : Int) (b4 : Int) => (a3 + b4))) (ew_p0 (τ := (fr D.int)) (a := (1 : Int)) ep_c) (ew_fn (e := D.int) (ν := fun (q1 : Unit) => m__law_pick (11 : Int)) (τs := fun (q1 : Unit) => [(T.fr D.rng), (T.fr (D.int (11 : Int)))]) (ts' := fun (q1 : Unit) => [(T.fr D.rng), (T.fr (D.int (11 : Int)))]) (ews_p0 (eps_cons (ep_var (i := 0) rfl) (eps_cons ep_c eps_nil))) (fun _ => rfl) (fun _ => rfl) (fun q1 P Q i h => ⟨(11 : Int), Q, rfl, i, h⟩)) (fun a3 b4 => o_add)) (fun _ => rfl)) fun many => (rw_assoc (rw_seq (ρ1 := (fun (q23 : ((List Tx) × ((List Tx) × Unit))) => [some (T.fr D.rng), some (T.fr (D.int many)), none, none, none, none, some (T.fr ((eL D.str) q23.1)), some (T.fr ((eL D.str) q23.2.1)), none, none, none, none, none])) (sw_par (da := fun (q22 : ((List Tx) × ((List Tx) × Unit))) => (eL D.str) q22.1) (db := fun (q22 : ((List Tx) × ((List Tx) × Unit))) => (eL D.str) q22.2.1) (ews_cons (τ := (fr (eL D.str))) (τs := (fun (_ : (List Tx)) (q : ((List Tx) × Unit)) => [(T.fr ((eL D.str) q.1))])) (ew_fn (e := (eL D.str)) (ν := fun (q19 : Unit) => m__law_spelt_all many) (τs := fun (q19 : Unit) => [(T.fr D.rng), (T.fr (D.int many))]) (ts' := fun (q19 : Unit) => [(T.fr D.rng), (T.fr (D.int many))]) (ews_p0 (eps_cons (ep_var (i := 0) rfl) (eps_cons (ep_var (i := 1) rfl) eps_nil))) (fun _ => rfl) (fun _ => rfl) (fun q19 P Q i h => ⟨many, Q, rfl, i, h⟩)) (fun _ => (ews_cons (τ := (fr (eL D.str))) (τs := (fun (_ : (List Tx)) (q : Unit) => [])) (ew_fn (e := (eL D.str)) (ν := fun (q16 : (Int × Unit)) => m__law_spelt_all q16.1) (τs := fun (q16 : (Int × Unit)) => [(T.fr D.rng), (T.fr (D.int q16.1))]) (ts' := fun (q16 : (Int × Unit)) => [(T.fr D.rng), (T.fr (D.int q16.1))]) (ews_consP0 (ta := (T.fr D.rng)) (τs := (fun (q : (Int × Unit)) => [(T.fr (D.int q.1))])) (ep_var (i := 0) rfl) (ews_cons (τ := (fr D.int)) (τs := (fun (_ : Int) (q : Unit) => [])) (ew2_0 (τa := (fr D.int)) (τb := (fr D.int)) (τc := (fr D.int)) (f := (fun (a13 : Int) (b14 : Int) => (a13 + b14))) (ew_p0 (τ := (fr D.int)) (a := (1 : Int)) ep_c) (ew_fn (e := D.int) (ν := fun (q11 : Unit) => m__law_pick (2 : Int)) (τs := fun (q11 : Unit) => [(T.fr D.rng), (T.fr (D.int (2 : Int)))]) (ts' := fun (q11 : Unit) => [(T.fr D.rng), (T.fr (D.int (2 : Int)))]) (ews_p0 (eps_cons (ep_var (i := 0) rfl) (eps_cons ep_c eps_nil))) (fun _ => rfl) (fun _ => rfl) (fun q11 P Q i h => ⟨(2 : Int), Q, rfl, i, h⟩)) (fun a13 b14 => o_add)) (fun _ => ews_nil))) (fun _ => rfl) (fun _ => rfl) (fun q16 P Q i h => ⟨q16.1, Q, rfl, i, h⟩)) (fun _ => ews_nil)))) (fun _ => rfl)) fun q23 => (rw_assoc (rw_let0 (ρ1 := (fun (paces : (List (Tx × Tx × Int × Int))) => [some (T.fr D.rng), some (T.fr (D.int many)), some (tF true (eT4 D.str D.str D.int D.int) paces), none, none, none, some (T.fr ((eL D.str) q23.1)), some (T.fr ((eL D.str) q23.2.1)), none, none, none, none, none])) ([] : List (Tx × Tx × Int × Int)) (sn_own (e := (eT4 D.str D.str D.int D.int)) ([] : List (Tx × Tx × Int × Int)) (en_lst (ds := []) eps_nil rfl rfl) rfl rfl) fun paces => (rw_assoc (rw_wa (rw_forN (S := (List (Tx × Tx × Int × Int))) (vs := [3, 8, 9]) (R := (fun (s24 : (List (Tx × Tx × Int × Int))) => [some (T.fr D.rng), some (T.fr (D.int many)), some (tF true (eT4 D.str D.str D.int D.int) s24), none, none, none, some (T.fr ((eL D.str) q23.1)), some (T.fr ((eL D.str) q23.2.1)), none, none, none, none, none])) (ρb := (fun (s24 : (List (Tx × Tx × Int × Int))) (x25 : Tx) => [some (T.fr D.rng), some (T.fr (D.int many)), some (tF true (eT4 D.str D.str D.int D.int) s24), some (T.fr (D.str x25)), none, none, some (T.fr ((eL D.str) q23.1)), some (T.fr ((eL D.str) q23.2.1)), none, none, none, none, none])) paces (eiw_p0 (τ := (fr D.str)) (xs := q23.1) (ei_seq (ep_var (i := 6) rfl) il_L.is)) rfl (fun _ _ => rfl) (fun s24 x25 => (rw_end (rw_assoc (rw_seq (ρ1 := (fun (most : Int) => [some (T.fr D.rng), some (T.fr (D.int many)), some (tF true (eT4 D.str D.str D.int D.int) s24), some (T.fr (D.str x25)), none, none, some (T.fr ((eL D.str) q23.1)), some (T.fr ((eL D.str) q23.2.1)), some (T.fr (D.int most)), none, none, none, none])) (sw_set (e := D.int) (ew2 (τa := (fr (eL D.int))) (τb := fr D.int) (τc := (fr D.int)) (f := fun (a26 : (List Int)) (b27 : Int) => ((atI a26 b27).getD default)) (ew_p0 (τ := (fr (eL D.int))) (a := [(4 : Int), (60 : Int)]) (ep_lstE (d := eL D.int [(4 : Int), (60 : Int)]) (eps_cons ep_c (eps_cons ep_c eps_nil)) rfl rfl)) (ew_fn (e := D.int) (ν := fun (q28 : Unit) => m__law_pick (2 : Int)) (τs := fun (q28 : Unit) => [(T.fr D.rng), (T.fr (D.int (2 : Int)))]) (ts' := fun (q28 : Unit) => [(T.fr D.rng), (T.fr (D.int (2 : Int)))]) (ews_p0 (eps_cons (ep_var (i := 0) rfl) (eps_cons ep_c eps_nil))) (fun _ => rfl) (fun _ => rfl) (fun q28 P Q i h => ⟨(2 : Int), Q, rfl, i, h⟩)) (fun _ b => o_ix il_L.is b)) (fun _ => rfl)) fun most => (rw_assoc (rw_seq (ρ1 := (fun (pace : (Tx × Tx × Int × Int)) => [some (T.fr D.rng), some (T.fr (D.int many)), some (tF true (eT4 D.str D.str D.int D.int) s24), some (T.fr (D.str x25)), none, none, some (T.fr ((eL D.str) q23.1)), some (T.fr ((eL D.str) q23.2.1)), some (T.fr (D.int most)), some (T.fr ((eT4 D.str D.str D.int D.int) pace)), none, none, none])) (sw_set (e := (eT4 D.str D.str D.int D.int)) (ew_tupE (τs := fun (q45 : (Tx × (Int × (Int × Unit)))) => [(T.fr (D.str x25)), (T.fr (D.str q45.1)), (T.fr (D.int q45.2.1)), (T.fr (D.int q45.2.2.1))]) (e := (eT4 D.str D.str D.int D.int)) (f := fun (q45 : (Tx × (Int × (Int × Unit)))) => (x25, q45.1, q45.2.1, q45.2.2.1)) (ews_consP0 (ta := (T.fr (D.str x25))) (τs := (fun (q : (Tx × (Int × (Int × Unit)))) => [(T.fr (D.str q.1)), (T.fr (D.int q.2.1)), (T.fr (D.int q.2.2.1))])) (ep_var (i := 3) rfl) (ews_cons (τ := (fr D.str)) (τs := (fun (_ : Tx) (q : (Int × (Int × Unit))) => [(T.fr (D.int q.1)), (T.fr (D.int q.2.1))])) (ew2 (τa := (fr (eL D.str))) (τb := fr D.int) (τc := (fr D.str)) (f := fun (a40 : (List Tx)) (b41 : Int) => ((atI a40 b41).getD default)) (ew_p0 (τ := (fr (eL D.str))) (a := q23.2.1) (ep_var (i := 7) rfl)) (ew_fn (e := D.int) (ν := fun (q42 : Unit) => m__law_pick (q23.2.1.length : Int)) (τs := fun (q42 : Unit) => [(T.fr D.rng), (T.fr (D.int (q23.2.1.length : Int)))]) (ts' := fun (q42 : Unit) => [(T.fr D.rng), (T.fr (D.int (q23.2.1.length : Int)))]) (ews_p0 (eps_cons (ep_var (i := 0) rfl) (eps_cons (epn (eps_cons (ep_var (i := 7) rfl) eps_nil) (o_len il_L.is)) eps_nil))) (fun _ => rfl) (fun _ => rfl) (fun q42 P Q i h => ⟨(q23.2.1.length : Int), Q, rfl, i, h⟩)) (fun _ b => o_ix il_L.is b)) (fun _ => (ews_cons (τ := (fr D.int)) (τs := (fun (_ : Int) (q : (Int × Unit)) => [(T.fr (D.int q.1))])) (ew2_0 (τa := (fr D.int)) (τb := (fr D.int)) (τc := (fr D.int)) (f := (fun (a37 : Int) (b38 : Int) => (a37 + b38))) (ew_p0 (τ := (fr D.int)) (a := (1 : Int)) ep_c) (ew_fn (e := D.int) (ν := fun (q35 : Unit) => m__law_pick most) (τs := fun (q35 : Unit) => [(T.fr D.rng), (T.fr (D.int most))]) (ts' := fun (q35 : Unit) => [(T.fr D.rng), (T.fr (D.int most))]) (ews_p0 (eps_cons (ep_var (i := 0) rfl) (eps_cons (ep_var (i := 8) rfl) eps_nil))) (fun _ => rfl) (fun _ => rfl) (fun q35 P Q i h => ⟨most, Q, rfl, i, h⟩)) (fun a37 b38 => o_add)) (fun _ => (ews_cons (τ := (fr D.int)) (τs := (fun (_ : Int) (q : Unit) => [])) (ew2_0 (τa := (fr D.int)) (τb := (fr D.int)) (τc := (fr D.int)) (f := (fun (a32 : Int) (b33 : Int) => (a32 + b33))) (ew_p0 (τ := (fr D.int)) (a := (1 : Int)) ep_c) (ew_fn (e := D.int) (ν := fun (q30 : Unit) => m__law_pick (60 : Int)) (τs := fun (q30 : Unit) => [(T.fr D.rng), (T.fr (D.int (60 : Int)))]) (ts' := fun (q30 : Unit) => [(T.fr D.rng), (T.fr (D.int (60 : Int)))]) (ews_p0 (eps_cons (ep_var (i := 0) rfl) (eps_cons ep_c eps_nil))) (fun _ => rfl) (fun _ => rfl) (fun q30 P Q i h => ⟨(60 : Int), Q, rfl, i, h⟩)) (fun a32 b33 => o_add)) (fun _ => ews_nil))))))) (fun _ => rfl) (fun _ => rfl)) (fun _ => rfl)) fun pace => (rw_if (ebw_val (ew2_0 (τa := (fr D.int)) (τb := (fr D.int)) (τc := fr D.bl) (f := (fun (a48 : Int) (b49 : Int) => (decide (b49 < a48)))) (ew_fn (e := D.int) (ν := fun (q46 : Unit) => m__law_pick (6 : Int)) (τs := fun (q46 : Unit) => [(T.fr D.rng), (T.fr (D.int (6 : Int)))]) (ts' := fun (q46 : Unit) => [(T.fr D.rng), (T.fr (D.int (6 : Int)))]) (ews_p0 (eps_cons (ep_var (i := 0) rfl) (eps_cons ep_c eps_nil))) (fun _ => rfl) (fun _ => rfl) (fun q46 P Q i h => ⟨(6 : Int), Q, rfl, i, h⟩)) (ew_p0 (τ := (fr D.int)) (a := (0 : Int)) ep_c) (fun a48 b49 => o_I0))) (rw_p (rg_let0 (ρ1 := (fun (paces : (List (Tx × Tx × Int × Int))) => [some (T.fr D.rng), some (T.fr (D.int many)), some (tF true (eT4 D.str D.str D.int D.int) paces), some (T.fr (D.str x25)), none, none, some (T.fr ((eL D.str) q23.1)), some (T.fr ((eL D.str) q23.2.1)), some (T.fr (D.int most)), some (T.fr ((eT4 D.str D.str D.int D.int) pace)), none, none, none])) (s24 ++ [pace]) (sn_app (v := pace) rfl (ep_var (i := 9) rfl) rfl) fun paces => (rg_nx (m := paces) (fun E h => h _ rfl)))) (rw_p0 (rg_skip (rg_nx (m := s24) (fun E h => h _ rfl))))))))))) fun s24 => (rw_p (rg_assoc (rg_let (ρ1 := (fun (rows : (List Tx)) => [some (T.fr D.rng), some (T.fr (D.int many)), some (tF true (eT4 D.str D.str D.int D.int) s24), none, some (T.fr ((eL D.str) rows)), none, some (T.fr ((eL D.str) q23.1)), some (T.fr ((eL D.str) q23.2.1)), none, none, none, none, none])) ((q23.2.1.map fun (x50 : Tx) => (((tl ("kind " : Str)) ++ x50) ++ (tl (" -" : Str)))) ++ (q23.1.map fun (x51 : Tx) => ((tl ("gate " : Str)) ++ x51))) (sn_set (d := (eL D.str) ((q23.2.1.map fun (x50 : Tx) => (((tl ("kind " : Str)) ++ x50) ++ (tl (" -" : Str)))) ++ (q23.1.map fun (x51 : Tx) => ((tl ("gate " : Str)) ++ x51)))) (ep2 (ep_map (oC := []) (e := D.str) (f := (fun x50 => (((tl ("kind " : Str)) ++ x50) ++ (tl (" -" : Str))))) (ρb := fun x50 => [some (T.fr D.rng), some (T.fr (D.int many)), some (tF true (eT4 D.str D.str D.int D.int) s24), none, none, none, some (T.fr ((eL D.str) q23.1)), some (T.fr ((eL D.str) q23.2.1)), none, none, some (T.fr (D.str x50)), none, none]) (ei_seq (ep_var (i := 7) rfl) il_L.is) hC_T (fun _ => rfl) (fun x50 => (ep2 (ep2 ep_c (ep_var (i := 10) rfl) o_addS) ep_c o_addS))) (ep_map (oC := []) (e := D.str) (f := (fun x51 => ((tl ("gate " : Str)) ++ x51))) (ρb := fun x51 => [some (T.fr D.rng), some (T.fr (D.int many)), some (tF true (eT4 D.str D.str D.int D.int) s24), some (T.fr (D.str x51)), none, none, some (T.fr ((eL D.str) q23.1)), some (T.fr ((eL D.str) q23.2.1)), none, none, none, none, none]) (ei_seq (ep_var (i := 6) rfl) il_L.is) hC_T (fun _ => rfl) (fun x51 => (ep2 ep_c (ep_var (i := 3) rfl) o_addS))) o_addL) rfl) fun rows => (rg_assoc (rg_let (ρ1 := (fun (rows : (List Tx)) => [some (T.fr D.rng), some (T.fr (D.int many)), some (tF true (eT4 D.str D.str D.int D.int) s24), none, some (T.fr ((eL D.str) rows)), none, some (T.fr ((eL D.str) q23.1)), some (T.fr ((eL D.str) q23.2.1)), none, none, none, none, none])) (rows ++ (s24.map fun (x52 : (Tx × Tx × Int × Int)) => (joinL (tl (" " : Str)) [(tl ("pace" : Str)), x52.1, x52.2.1, (strI x52.2.2.1), (strI x52.2.2.2)]))) (sn_set (d := (eL D.str) (rows ++ (s24.map fun (x52 : (Tx × Tx × Int × Int)) => (joinL (tl (" " : Str)) [(tl ("pace" : Str)), x52.1, x52.2.1, (strI x52.2.2.1), (strI x52.2.2.2)])))) (ep2 (ep_var (i := 4) rfl) (ep_map (oC := []) (e := D.str) (f := (fun x52 => (joinL (tl (" " : Str)) [(tl ("pace" : Str)), x52.1, x52.2.1, (strI x52.2.2.1), (strI x52.2.2.2)]))) (ρb := fun x52 => [some (T.fr D.rng), some (T.fr (D.int many)), some (tF true (eT4 D.str D.str D.int D.int) s24), some (T.fr (D.str x52.1)), some (T.fr ((eL D.str) rows)), none, some (T.fr ((eL D.str) q23.1)), some (T.fr ((eL D.str) q23.2.1)), none, none, some (T.fr (D.str x52.2.1)), some (T.fr (D.int x52.2.2.1)), some (T.fr (D.int x52.2.2.2))]) (ei_seq (ep_var (i := 2) rfl) il_O.is) hC_T (fun _ => rfl) (fun x52 => (ep_m1 ep_c (ep_lstE (d := eL D.str [(tl ("pace" : Str)), x52.1, x52.2.1, (strI x52.2.2.1), (strI x52.2.2.2)]) (eps_cons ep_c (eps_cons (ep_var (i := 3) rfl) (eps_cons (ep_var (i := 10) rfl) (eps_cons (epn (eps_cons (ep_var (i := 11) rfl) eps_nil) o_str) (eps_cons (epn (eps_cons (ep_var (i := 12) rfl) eps_nil) o_str) eps_nil))))) rfl rfl) (o_join il_L.is)))) o_addL) rfl) fun rows => (rg_assoc (rg_let (ρ1 := (fun (own : (List (Tx × (Tx × Int × Int)))) => [some (T.fr D.rng), some (T.fr (D.int many)), some (tF true (eT4 D.str D.str D.int D.int) s24), none, some (T.fr ((eL D.str) rows)), some (T.fr ((eDS (eT3 D.str D.int D.int)) own)), some (T.fr ((eL D.str) q23.1)), some (T.fr ((eL D.str) q23.2.1)), none, none, none, none, none])) (s24.map fun (x53 : (Tx × Tx × Int × Int)) => (x53.1, (x53.2.1, x53.2.2.1, x53.2.2.2))) (sn_set (d := (eDS (eT3 D.str D.int D.int)) (s24.map fun (x53 : (Tx × Tx × Int × Int)) => (x53.1, (x53.2.1, x53.2.2.1, x53.2.2.2)))) (ep_frzDict (ep_map0 (oC := []) (e := (eT2 D.str (eT3 D.str D.int D.int))) (f := (fun x53 => (x53.1, (x53.2.1, x53.2.2.1, x53.2.2.2)))) (ρb := fun x53 => [some (T.fr D.rng), some (T.fr (D.int many)), some (tF true (eT4 D.str D.str D.int D.int) s24), none, some (T.fr ((eL D.str) rows)), none, some (T.fr ((eL D.str) q23.1)), some (T.fr ((eL D.str) q23.2.1)), none, some (T.fr ((eT4 D.str D.str D.int D.int) x53)), none, none, none]) (ei_seq (ep_var (i := 2) rfl) il_O.is) hC_T (fun _ => rfl) (fun x53 => (ep_tupE (d := (eT2 D.str (eT3 D.str D.int D.int)) (x53.1, (x53.2.1, x53.2.2.1, x53.2.2.2))) (eps_cons (ep2 (ep_var (i := 9) rfl) ep_c o_t4_0) (eps_cons (ep_sl (t := (T.fr ((eT3 D.str D.int D.int) (x53.2.1, x53.2.2.1, x53.2.2.2)))) (ep_var (i := 9) rfl) (eo_some ep_c) eo_no (s_TE (ds := [D.str (x53.1), D.str (x53.2.1), D.int (x53.2.2.1), D.int (x53.2.2.2)]) (lo := (some 1)) (hi := none) 4 rfl (by decide) rfl)) eps_nil)) rfl rfl)))) rfl) fun own => (rg_ret (m := (q23.1, q23.2.1, own, (joinL (tl ("\n" : Str)) rows))) (t := (T.fr (eH67 (q23.1, q23.2.1, own, (joinL (tl ("\n" : Str)) rows))))) (ep_frz (d := eH67 (q23.1, q23.2.1, own, (joinL (tl ("\n" : Str)) rows))) (ep_dispE [.inr (tl ("gates" : Str)), .inr (tl ("kinds" : Str)), .inr (tl ("paces" : Str)), .inr (tl ("text" : Str))] (eds_cons ep_c (ep_mD (ep_var (i := 6) rfl)) (eds_cons ep_c (ep_mD (ep_var (i := 7) rfl)) (eds_cons ep_c (ep_mD (ep_var (i := 5) rfl)) (eds_cons ep_c (ep_mD (ep_m1 ep_c (ep_var (i := 4) rfl) (o_join il_L.is))) eds_nil)))) rfl rfl (by decide +kernel) rfl) rfl) (fun _ h => h _))))))))))))))))))) i ?_
    exact h
def m__law_next_gate (h_ : (List Tx × List Tx × List (Tx × Tx × Int × Int) × Tx)) (come : (List (Tx × (List Int)))) (now : Int) (few : Int) : WPt (Tx × Int) := fun P =>
  All [-(2 ^ 62) ≤ (2 : Int) ∧ (2 : Int) < 2 ^ 62] ∧ (All [(upI 0 ((2 : Int)).toNat).length ≤ sizeLine] ∧ (mapW (fun (x1 : Int) (P : Tx → Prop) => m__law_pick few fun (d5 : Int) => All [(atI h_.1 d5).isSome = true] ∧ (P ((atI h_.1 d5).getD default))) (upI 0 ((2 : Int)).toNat) fun (y6 : (List Tx)) => let some_ : (List Tx) := y6
  All [∀ x7 ∈ some_, All [if (hasK h_.2.2.1 x7) = true then All [hasK h_.2.2.1 x7 = true,
  hasK come x7 = true,
  ok__law_earliest ((getK h_.2.2.1 x7).getD default) ((getK come x7).getD default)] else True],
  (let times : (List Int) := (some_.map fun (x7 : Tx) => (if (hasK h_.2.2.1 x7) = true then (max now (f__law_earliest ((getK h_.2.2.1 x7).getD default) ((getK come x7).getD default))) else now))
  All [times.min?.isSome = true,
  (idxL (times.min?.getD 0) times).isSome = true,
  (let at_ : Int := (((idxL (times.min?.getD 0) times).getD 0 : Nat) : Int)
  All [(atI some_ at_).isSome = true,
  (atI times at_).isSome = true])])] ∧ P (let times : (List Int) := (some_.map fun (x7 : Tx) => (if (hasK h_.2.2.1 x7) = true then (max now (f__law_earliest ((getK h_.2.2.1 x7).getD default) ((getK come x7).getD default))) else now))
  let at_ : Int := (((idxL (times.min?.getD 0) times).getD 0 : Nat) : Int)
  (((atI some_ at_).getD default), ((atI times at_).getD default)))))
def S__law_next_gate : List T → (D → Prop) → Prop := fun ts P => ∃ h_ : (List Tx × List Tx × List (Tx × Tx × Int × Int) × Tx), ∃ come : (List (Tx × (List Int))), ∃ now : Int, ∃ few : Int, ∃ R : (Tx × Int) → Prop, ts = [(T.fr D.rng), (T.fr (eH67 h_)), ((tDS false (tF false D.int)) come), (T.fr (D.int now)), (T.fr (D.int few))] ∧ (∀ r, R r → P ((eT2 D.str D.int) r)) ∧ m__law_next_gate h_ come now few R
theorem fn__law_next_gate (A : At K mg "_law_next_gate" "_law_next_gate" s__law_next_gate) (B : Bl mg) (F__law_pick : Fn P w K mg base "_law_pick" 2 2 (1) S__law_pickT) (F__law_earliest : Fn P w K mg base "_law_earliest" 1 2 (0) S__law_earliest) : Fn P w K mg base "_law_next_gate" 3 5 (2 ^ 63) S__law_next_gate := by
  have sc : FnScope ["left", "h", "come", "now", "few", "some", "times", "at", "turn", "gate"] ["left", "h", "come", "now", "few"] (defScope s__law_next_gate) := ⟨rfl, rfl, rfl, by decide +kernel, rfl, by decide +kernel, by decide +kernel⟩
  have nd := sc.nd
  refine Fn.of (k := 2) A sc (fun _ _ _ _ _ _ us hl => match us, hl with | [_, _, _, _, _], _ => rfl) rfl ?hc (fun f cdv A outer s H E hr =>
      (wss_cons (ws_setLcR (own := [("turn", 8)]) (p := (.nm 8)) (i := 5) rfl nd rfl rfl (sw_true rfl rfl rfl (by decide +kernel)) (wi_rng1 rfl B.range (wa_cons we_int wa_nil)) (blkOk_by (by rfl)) (fun _ _ _ _ _ => (pg_name (i := 8) nd rfl (loc_of rfl))) (fun _ _ _ _ _ => wts_nil) (fun _ _ _ _ _ => (we_ix (ix_V (hu_of hr)) l_ix (we_ix (ix_V (hu_of hr)) l_ix (we_var (pv 1)) we_str (fun _ _ => rfl)) (we_fn F__law_pick hr (by decide) rfl (wa_cons (we_var (pv 0)) (wa_cons (we_var (pv 4)) wa_nil))) (fun _ _ => rfl))))
      (wss_cons (ws_setLc (own := [("gate", 9)]) (p := (.nm 9)) (i := 6) rfl nd rfl rfl (sw_true rfl rfl rfl (by decide +kernel)) (wi_seq (we_var (pv 5))) (blkOk_by (by rfl)) (fun _ _ _ _ _ => (pg_name (i := 9) nd rfl (loc_of rfl))) (fun _ _ _ _ _ => wts_nil) (fun _ _ _ _ _ => (we_ifE (wt_cmp (op_inV (hu_of hr)) l_in (we_var (pv 9)) (we_ix (ix_V (hu_of hr)) l_ix (we_var (pv 1)) we_str (fun _ _ => rfl)) rfl) (we_callB (call_maxV rfl) l_maxV rfl B.max (by decide +kernel) (wa_cons (we_var (pv 3)) (wa_cons (we_fn F__law_earliest hr (by decide) rfl (wa_cons (we_ix (ix_V (hu_of hr)) l_ix (we_ix (ix_V (hu_of hr)) l_ix (we_var (pv 1)) we_str (fun _ _ => rfl)) (we_var (pv 9)) (fun _ _ => rfl)) (wa_cons (we_ix (ix_V (hu_of hr)) l_ix (we_var (pv 2)) (we_var (pv 9)) (fun _ _ => rfl)) wa_nil))) wa_nil))) (we_var (pv 3)))))
      (wss_cons (ws_set (i := 7) nd rfl (loc_of rfl) (we_idx (we_var (pv 6)) (we_callB (call_minV rfl) l_minV rfl B.min (by decide +kernel) (wa_cons (we_var (pv 6)) wa_nil))))
      (wss_one (ws_ret (we_tup (wa_cons (we_ix (ix_V (hu_of hr)) l_ix (we_var (pv 5)) (we_var (pv 7)) (fun _ _ => rfl)) (wa_cons (we_ix (ix_V (hu_of hr)) l_ix (we_var (pv 6)) (we_var (pv 7)) (fun _ _ => rfl)) wa_nil))))))))) ?hs
  case hc => walk_at "cst"
  case hs =>
    intro ts Q hl h
    obtain ⟨h_, come, now, few, R, rfl, i, h⟩ := h
    refine rw_pure (ρ := [some (T.fr D.rng), some (T.fr (eH67 h_)), some ((tDS false (tF false D.int)) come), some (T.fr (D.int now)), some (T.fr (D.int few)), none, none, none, none, none]) (e := fun r => (eT2 D.str D.int) r) (rw_end (rw_assoc (rw_seq (ρ1 := (fun (some_ : (List Tx)) => [some (T.fr D.rng), some (T.fr (eH67 h_)), some ((tDS false (tF false D.int)) come), some (T.fr (D.int now)), some (T.fr (D.int few)), some (T.fr ((eL D.str) some_)), none, none, none, none])) (sw_set (e := (eL D.str)) (ew_lc (oC := (fun xs => [xs.length ≤ sizeLine])) (e := D.str) (ρb := fun (x1 : Int) => [some (T.fr D.rng), some (T.fr (eH67 h_)), some ((tDS false (tF false D.int)) come), some (T.fr (D.int now)), some (T.fr (D.int few)), none, none, none, some (T.fr (D.int x1)), none]) (eiw_p (τ := (fr D.int)) (xs := (upI 0 ((2 : Int)).toNat)) (ei_rng1 (eps_cons ep_c eps_nil))) hCw_R (fun _ => rfl) (fun x1 => (ew2 (τa := (fr (eL D.str))) (τb := fr D.int) (τc := (fr D.str)) (f := fun (a2 : (List Tx)) (b3 : Int) => ((atI a2 b3).getD default)) (ew_p0 (τ := (fr (eL D.str))) (a := h_.1) (ep2 (ep_var (i := 1) rfl) ep_c o_H67_gates)) (ew_fn (e := D.int) (ν := fun (q4 : Unit) => m__law_pick few) (τs := fun (q4 : Unit) => [(T.fr D.rng), (T.fr (D.int few))]) (ts' := fun (q4 : Unit) => [(T.fr D.rng), (T.fr (D.int few))]) (ews_p0 (eps_cons (ep_var (i := 0) rfl) (eps_cons (ep_var (i := 4) rfl) eps_nil))) (fun _ => rfl) (fun _ => rfl) (fun q4 P Q i h => ⟨few, Q, rfl, i, h⟩)) (fun _ b => o_ix il_L.is b)))) (fun _ => rfl)) fun some_ => (rw_p (rg_assoc (rg_let (ρ1 := (fun (times : (List Int)) => [some (T.fr D.rng), some (T.fr (eH67 h_)), some ((tDS false (tF false D.int)) come), some (T.fr (D.int now)), some (T.fr (D.int few)), some (T.fr ((eL D.str) some_)), some (T.fr ((eL D.int) times)), none, none, none])) (some_.map fun (x7 : Tx) => (if (hasK h_.2.2.1 x7) = true then (max now (f__law_earliest ((getK h_.2.2.1 x7).getD default) ((getK come x7).getD default))) else now)) (sn_set (d := (eL D.int) (some_.map fun (x7 : Tx) => (if (hasK h_.2.2.1 x7) = true then (max now (f__law_earliest ((getK h_.2.2.1 x7).getD default) ((getK come x7).getD default))) else now))) (ep_map (oC := []) (e := D.int) (f := (fun x7 => (if (hasK h_.2.2.1 x7) = true then (max now (f__law_earliest ((getK h_.2.2.1 x7).getD default) ((getK come x7).getD default))) else now))) (ρb := fun x7 => [some (T.fr D.rng), some (T.fr (eH67 h_)), some ((tDS false (tF false D.int)) come), some (T.fr (D.int now)), some (T.fr (D.int few)), some (T.fr ((eL D.str) some_)), none, none, none, some (T.fr (D.str x7))]) (ei_seq (ep_var (i := 5) rfl) il_L.is) hC_T (fun _ => rfl) (fun x7 => (ep_ifO (τ := (fr D.int)) (v := (max now (f__law_earliest ((getK h_.2.2.1 x7).getD default) ((getK come x7).getD default)))) (v' := now) (eb_val (ep2 (ep_var (i := 9) rfl) (ep2 (ep_var (i := 1) rfl) ep_c o_H67_paces) (o_inD id_DS x7))) (epn (eps_cons (ep_var (i := 3) rfl) (eps_cons (ep_fn (ts' := [(T.fr ((eT3 D.str D.int D.int) ((getK h_.2.2.1 x7).getD default))), (tF false D.int ((getK come x7).getD default))]) (d := D.int (f__law_earliest ((getK h_.2.2.1 x7).getD default) ((getK come x7).getD default))) (oo := [ok__law_earliest ((getK h_.2.2.1 x7).getD default) ((getK come x7).getD default)]) (eps_cons (ep2 (ep2 (ep_var (i := 1) rfl) ep_c o_H67_paces) (ep_var (i := 9) rfl) (o_ixD id_DS x7)) (eps_cons (ep2 (ep_var (i := 2) rfl) (ep_var (i := 9) rfl) (o_ixD id_tS x7)) eps_nil)) (by simp only [T.lends, T.lend, lend_tF, lend_tL, lend_tDS, lend_tDI, lend_tDP]) rfl (fun P o p => ⟨((getK h_.2.2.1 x7).getD default), ((getK come x7).getD default), rfl, o.1, p⟩)) eps_nil)) o_max2) (ep_var (i := 3) rfl)))) rfl) fun times => (rg_assoc (rg_let (ρ1 := (fun (at_ : Int) => [some (T.fr D.rng), some (T.fr (eH67 h_)), some ((tDS false (tF false D.int)) come), some (T.fr (D.int now)), some (T.fr (D.int few)), some (T.fr ((eL D.str) some_)), some (T.fr ((eL D.int) times)), some (T.fr (D.int at_)), none, none])) (((idxL (times.min?.getD 0) times).getD 0 : Nat) : Int) (sn_set (d := D.int (((idxL (times.min?.getD 0) times).getD 0 : Nat) : Int)) (ep_idx fl_int (ep_var (i := 6) rfl) ix_L (epn (eps_cons (ep_var (i := 6) rfl) eps_nil) (o_min ii_L))) rfl) fun at_ => (rg_ret (m := (((atI some_ at_).getD default), ((atI times at_).getD default))) (t := (T.fr ((eT2 D.str D.int) (((atI some_ at_).getD default), ((atI times at_).getD default))))) (ep_tupE (d := (eT2 D.str D.int) (((atI some_ at_).getD default), ((atI times at_).getD default))) (eps_cons (ep2 (ep_var (i := 5) rfl) (ep_var (i := 7) rfl) (o_ix il_L.is at_)) (eps_cons (ep2 (ep_var (i := 6) rfl) (ep_var (i := 7) rfl) (o_ix il_L.is at_)) eps_nil)) rfl rfl) (fun _ h => h _)))))))))) i ?_
    exact h
def m__law_left (ns : List Int) (k : Int) : WPt Unit := fun P => ok__law_left ns k ∧ P ()
def S__law_leftR : List T → (D → Prop) → Prop := fun ts P => ∃ ns : List Int, ∃ k : Int, ∃ R : Unit → Prop, ts = [.fr (.scr ns), .fr (.int k)] ∧ (∀ r, R r → P .rng) ∧ m__law_left ns k R
theorem fn__law_leftR (F : FnM P w K mg base "_law_left" 1 2 (0) S__law_left) : Fn P w K mg base "_law_left" 1 2 (0) S__law_leftR :=
  Fn.ofM F (rng_new fun ts P ⟨ns, k, R, e, i, hk, hr⟩ => by
    subst e
    exact ⟨⟨[.scr ns, .int k], rfl⟩, ns, k, rfl, hk, i () hr, _, _, rfl⟩)

def m__law_day_st1 (h_ : (List Tx × List Tx × List (Tx × Tx × Int × Int) × Tx)) (few : Int) (lefts : (List Unit)) (s7 : ((List (Int × Tx × Tx × Tx)) × Int × (List (Tx × (List Int))))) (x8 : Int) : WPt ((List (Int × Tx × Tx × Tx)) × Int × (List (Tx × (List Int)))) :=
  fun P => All [(atI lefts (x8 % (62 : Int))).isSome = true] ∧ (let left : Unit := ((atI lefts (x8 % (62 : Int))).getD default)
  m__law_next_gate h_ s7.2.2 s7.2.1 few fun (d11 : (Tx × Int)) => let q9 : (Tx × Int) := d11
  All [if (hasK h_.2.2.1 q9.1) = true then All [hasK h_.2.2.1 q9.1 = true] else All [(atI h_.2.1 (0 : Int)).isSome = true]] ∧ (let kind : Tx := (if (hasK h_.2.2.1 q9.1) = true then ((getK h_.2.2.1 q9.1).getD default).1 else ((atI h_.2.1 (0 : Int)).getD default))
  m__law_pick (16 : Int) fun (d15 : Int) => All [(atI [(0 : Int), (0 : Int), (0 : Int), (0 : Int), (0 : Int), (0 : Int), (0 : Int), (0 : Int), (0 : Int), (0 : Int), (-(1 : Int)), (1 : Int), (3 : Int), (0 : Int), (0 : Int), (0 : Int)] d15).isSome = true] ∧ (let now : Int := (max s7.2.1 (q9.2 + ((atI [(0 : Int), (0 : Int), (0 : Int), (0 : Int), (0 : Int), (0 : Int), (0 : Int), (0 : Int), (0 : Int), (0 : Int), (-(1 : Int)), (1 : Int), (3 : Int), (0 : Int), (0 : Int), (0 : Int)] d15).getD default)))
  All [hasK s7.2.2 q9.1 = true,
  ((getK s7.2.2 q9.1).getD default).length < sizeLine,
  (let come : (List (Tx × (List Int))) := (setK q9.1 (((getK s7.2.2 q9.1).getD default) ++ [now]) s7.2.2)
  All [s7.1.length < sizeLine])] ∧ P (let come : (List (Tx × (List Int))) := (setK q9.1 (((getK s7.2.2 q9.1).getD default) ++ [now]) s7.2.2)
  let day : (List (Int × Tx × Tx × Tx)) := (s7.1 ++ [(now, q9.1, kind, (tl ("" : Str)))])
  (day, now, come)))))
def m__law_day (script : (List Int)) (h_ : (List Tx × List Tx × List (Tx × Tx × Int × Int) × Tx)) (size : Int) (few : Int) : WPt (List (Int × Tx × Tx × Tx)) := fun P =>
  All [-(2 ^ 62) ≤ (62 : Int) ∧ (62 : Int) < 2 ^ 62] ∧ (All [(upI 0 ((62 : Int)).toNat).length ≤ sizeLine] ∧ (mapW (fun (x1 : Int) (P : Unit → Prop) => m__law_left script ((1 : Int) + x1) fun (d3 : Unit) => P d3) (upI 0 ((62 : Int)).toNat) fun (y4 : (List Unit)) => let lefts : (List Unit) := y4
  All [∀ x5 ∈ h_.1, True,
  (h_.1.map fun (x5 : Tx) => x5).Nodup] ∧ (let q6 : ((List (Int × Tx × Tx × Tx)) × Int × (List (Tx × (List Int)))) := (([] : (List (Int × Tx × Tx × Tx))), (0 : Int), (h_.1.map fun (x5 : Tx) => (x5, ([] : (List Int)))))
  All [-(2 ^ 62) ≤ size ∧ size < 2 ^ 62] ∧ (loopWN (m__law_day_st1 h_ few lefts) (upI 0 (size).toNat) (q6.1, q6.2.1, q6.2.2) fun (s7 : ((List (Int × Tx × Tx × Tx)) × Int × (List (Tx × (List Int))))) => P (s7.1)))))
def S__law_day : SpS := fun ts P _ => ∃ script : (List Int), ∃ h_ : (List Tx × List Tx × List (Tx × Tx × Int × Int) × Tx), ∃ size : Int, ∃ few : Int, ∃ R0 : (List (Int × Tx × Tx × Tx)) → Prop, ts = [(T.fr (D.scr script)), (T.fr (eH67 h_)), (T.fr (D.int size)), (T.fr (D.int few))] ∧ (∀ r, R0 r → P (tF true (eT4 D.int D.str D.str D.str) r) [none, none, none, none]) ∧ m__law_day script h_ size few R0
theorem fn__law_day (A : At K mg "_law_day" "_law_day" s__law_day) (B : Bl mg) (F__law_left : Fn P w K mg base "_law_left" 1 2 (0) S__law_leftR) (F__law_next_gate : Fn P w K mg base "_law_next_gate" 3 5 (2 ^ 63) S__law_next_gate) (F__law_pick : Fn P w K mg base "_law_pick" 2 2 (1) S__law_pickT) : FnM P w K mg base "_law_day" 4 4 (2 ^ 130) S__law_day := by
  have sc : FnScope ["script", "h", "size", "few", "lefts", "k", "day", "now", "come", "left", "kind", "gate", "time"] ["script", "h", "size", "few"] (defScope s__law_day) := ⟨rfl, rfl, rfl, by decide +kernel, rfl, by decide +kernel, by decide +kernel⟩
  have nd := sc.nd
  refine FnM.of2 (k := 3) A sc (fun _ _ _ _ _ _ us hl => match us, hl with | [_, _, _, _], _ => rfl) rfl ?hc (fun f cdv A outer s H E hr tk =>
      (wss_cons (ws_setLcR (own := [("k", 5)]) (p := (.nm 5)) (i := 4) rfl nd rfl rfl (sw_true rfl rfl rfl (by decide +kernel)) (wi_rng1 rfl B.range (wa_cons we_int wa_nil)) (blkOk_by (by rfl)) (fun _ _ _ _ _ => (pg_name (i := 5) nd rfl (loc_of rfl))) (fun _ _ _ _ _ => wts_nil) (fun _ _ _ _ _ => (we_fn F__law_left hr (by decide) rfl (wa_cons (we_var (pv 0)) (wa_cons (we_op op_addV l_add we_int (we_var (pv 5))) wa_nil)))))
      (wss_cons (ws_n3 (nn := 4) rfl (ws_par3 (i := 6) (j := 7) (l := 8) rfl nd rfl rfl rfl (by decide) (by decide) (by decide) rfl rfl rfl (wks_cons (wk_lst wks_nil) (wks_cons (wk_we we_int) (wks_cons (wk_dict rfl rfl B.dict (wk_lc (own := [("gate", 11)]) (p := (.nm 11)) rfl nd (wi_seq (we_ix (ix_V (hu_of hr)) l_ix (we_var (pv 1)) we_str (fun _ _ => rfl))) (blkOk_by (by rfl)) (fun _ _ _ _ _ => (pg_name (i := 11) nd rfl (loc_of rfl))) (fun _ _ _ _ _ => wts_nil) (fun _ _ _ _ _ => (wk_tup (wks_cons (wk_we (we_var (pv 11))) (wks_cons (wk_lst wks_nil) wks_nil)))))) wks_nil))) rfl))
      (wss_cons (ws_forV [5, 9, 10, 11, 12] (p := (.nm 5)) (passes_of rfl) rfl (wi_rng1 rfl B.range (wa_cons (we_var (pv 2)) wa_nil)) (pg_name (i := 5) nd rfl (loc_of rfl))
      (wss_cons (ws_set (i := 9) nd rfl (loc_of rfl) (we_ix (ix_V (hu_of hr)) l_ix (we_var (pv 4)) (we_op op_mod l_mod (we_var (pv 5)) we_int) (fun _ _ => rfl)))
      (wss_cons (ws_unp (p := (.tu (.cons (.nm 11) (.cons (.nm 12) .nil)))) (we_fn F__law_next_gate hr (by decide) rfl (wa_cons (we_var (pv 9)) (wa_cons (we_var (pv 1)) (wa_cons (we_var (pv 8)) (wa_cons (we_var (pv 7)) (wa_cons (we_var (pv 3)) wa_nil)))))) (pg_tup rfl (pgs_cons (pg_name (i := 11) nd rfl (loc_of rfl)) (pgs_cons (pg_name (i := 12) nd rfl (loc_of rfl)) pgs_nil))))
      (wss_cons (ws_set (i := 10) nd rfl (loc_of rfl) (we_ifE (wt_cmp (op_inV (hu_of hr)) l_in (we_var (pv 11)) (we_ix (ix_V (hu_of hr)) l_ix (we_var (pv 1)) we_str (fun _ _ => rfl)) rfl) (we_ix (ix_V (hu_of hr)) l_ix (we_ix (ix_V (hu_of hr)) l_ix (we_ix (ix_V (hu_of hr)) l_ix (we_var (pv 1)) we_str (fun _ _ => rfl)) (we_var (pv 11)) (fun _ _ => rfl)) we_int (fun _ _ => rfl)) (we_ix (ix_V (hu_of hr)) l_ix (we_ix (ix_V (hu_of hr)) l_ix (we_var (pv 1)) we_str (fun _ _ => rfl)) we_int (fun _ _ => rfl))))
      (wss_cons (ws_set (i := 7) nd rfl (loc_of rfl) (we_callB (call_maxV rfl) l_maxV rfl B.max (by decide +kernel) (wa_cons (we_var (pv 7)) (wa_cons (we_op op_addV l_add (we_var (pv 12)) (we_ix (ix_V (hu_of hr)) l_ix (we_lst (wa_cons we_int (wa_cons we_int (wa_cons we_int (wa_cons we_int (wa_cons we_int (wa_cons we_int (wa_cons we_int (wa_cons we_int (wa_cons we_int (wa_cons we_int (wa_cons (we_un un_neg l_neg we_int) (wa_cons we_int (wa_cons we_int (wa_cons we_int (wa_cons we_int (wa_cons we_int wa_nil))))))))))))))))) (we_fn F__law_pick hr (by decide) rfl (wa_cons (we_var (pv 9)) (wa_cons we_int wa_nil))) (fun _ _ => rfl))) wa_nil))))
      (wss_cons (ws_appP (wp_key (hu_of hr) (wp_var (pv 8)) (we_var (pv 11)) (fun _ _ => rfl)) (wk_we (we_var (pv 7))))
      (wss_one (ws_appP (wp_var (pv 6)) (wk_we (we_tup (wa_cons (we_var (pv 7)) (wa_cons (we_var (pv 11)) (wa_cons (we_var (pv 10)) (wa_cons we_str wa_nil))))))))))))))
      (wss_wipe [5, 9, 10, 11, 12] (wss_one (ws_retM (wm_take (pv 6))))))))) ?hs
  case hc => walk_at "cst"
  case hs =>
    intro ts Q R hl h
    obtain ⟨script, h_, size, few, R0, rfl, i, h⟩ := h
    refine rw_M (ts := [(T.fr (D.scr script)), (T.fr (eH67 h_)), (T.fr (D.int size)), (T.fr (D.int few))]) (ρ := [some (T.fr (D.scr script)), some (T.fr (eH67 h_)), some (T.fr (D.int size)), some (T.fr (D.int few)), none, none, none, none, none, none, none, none, none]) (ps := fun _ => [some (T.fr (D.scr script)), some (T.fr (eH67 h_)), some (T.fr (D.int size)), some (T.fr (D.int few))]) (gv := fun _ => [none, none, none, none]) (τ := fun r => (tF true (eT4 D.int D.str D.str D.str) r)) (rw_end (rw_assoc (rw_seq (ρ1 := (fun (lefts : (List Unit)) => [some (T.fr (D.scr script)), some (T.fr (eH67 h_)), some (T.fr (D.int size)), some (T.fr (D.int few)), some (T.fr ((eL (fun _ : Unit => D.rng)) lefts)), none, none, none, none, none, none, none, none])) (sw_set (e := (eL (fun _ : Unit => D.rng))) (ew_lc (oC := (fun xs => [xs.length ≤ sizeLine])) (e := (fun _ : Unit => D.rng)) (ρb := fun (x1 : Int) => [some (T.fr (D.scr script)), some (T.fr (eH67 h_)), some (T.fr (D.int size)), some (T.fr (D.int few)), none, some (T.fr (D.int x1)), none, none, none, none, none, none, none]) (eiw_p (τ := (fr D.int)) (xs := (upI 0 ((62 : Int)).toNat)) (ei_rng1 (eps_cons ep_c eps_nil))) hCw_R (fun _ => rfl) (fun x1 => (ew_fn (e := (fun _ : Unit => D.rng)) (ν := fun (q2 : Unit) => m__law_left script ((1 : Int) + x1)) (τs := fun (q2 : Unit) => [(T.fr (D.scr script)), (T.fr (D.int ((1 : Int) + x1)))]) (ts' := fun (q2 : Unit) => [(T.fr (D.scr script)), (T.fr (D.int ((1 : Int) + x1)))]) (ews_p0 (eps_cons (ep_var (i := 0) rfl) (eps_cons (ep2 ep_c (ep_var (i := 5) rfl) o_add) eps_nil))) (fun _ => rfl) (fun _ => rfl) (fun q2 P Q i h => ⟨script, ((1 : Int) + x1), Q, rfl, i, h⟩)))) (fun _ => rfl)) fun lefts => (rw_assoc (rw_let (ρ1 := (fun (q6 : ((List (Int × Tx × Tx × Tx)) × Int × (List (Tx × (List Int))))) => [some (T.fr (D.scr script)), some (T.fr (eH67 h_)), some (T.fr (D.int size)), some (T.fr (D.int few)), some (T.fr ((eL (fun _ : Unit => D.rng)) lefts)), none, some (tF true (eT4 D.int D.str D.str D.str) q6.1), some (T.fr (D.int q6.2.1)), some ((tDS true (tF true D.int)) q6.2.2), none, none, none, none])) (([] : (List (Int × Tx × Tx × Tx))), (0 : Int), (h_.1.map fun (x5 : Tx) => (x5, ([] : (List Int))))) (sn_par3 (eps_cons (ep_mLstE (t := (tF true (eT4 D.int D.str D.str D.str) ([] : (List (Int × Tx × Tx × Tx))))) eps_nil rfl rfl) (eps_cons (ep_mD ep_c) (eps_cons (ep_dictS (τ := (tF true D.int)) (fun x5 => x5) (fun x5 => ([] : (List Int))) (ep_mLc (oC := []) (f := (fun x5 => T.tup [(T.fr (D.str x5)), (tF true D.int ([] : (List Int)))])) (ρb := fun x5 => [some (T.fr (D.scr script)), some (T.fr (eH67 h_)), some (T.fr (D.int size)), some (T.fr (D.int few)), some (T.fr ((eL (fun _ : Unit => D.rng)) lefts)), none, none, none, none, none, none, some (T.fr (D.str x5)), none]) (ei_seq (ep2 (ep_var (i := 1) rfl) ep_c o_H67_gates) il_L.is) hC_T (fun _ => rfl) (fun x5 => (ep_mTup (eps_cons (ep_mD (ep_var (i := 11) rfl)) (eps_cons (ep_mLstE (t := (tF true D.int ([] : (List Int)))) eps_nil rfl rfl) eps_nil)) rfl))) (fun _ => rfl)) eps_nil))) rfl rfl rfl) fun q6 => (rw_assoc (rw_wa (rw_forN (S := ((List (Int × Tx × Tx × Tx)) × Int × (List (Tx × (List Int))))) (vs := [5, 9, 10, 11, 12]) (R := (fun (s7 : ((List (Int × Tx × Tx × Tx)) × Int × (List (Tx × (List Int))))) => [some (T.fr (D.scr script)), some (T.fr (eH67 h_)), some (T.fr (D.int size)), some (T.fr (D.int few)), some (T.fr ((eL (fun _ : Unit => D.rng)) lefts)), none, some (tF true (eT4 D.int D.str D.str D.str) s7.1), some (T.fr (D.int s7.2.1)), some ((tDS true (tF true D.int)) s7.2.2), none, none, none, none])) (ρb := (fun (s7 : ((List (Int × Tx × Tx × Tx)) × Int × (List (Tx × (List Int))))) (x8 : Int) => [some (T.fr (D.scr script)), some (T.fr (eH67 h_)), some (T.fr (D.int size)), some (T.fr (D.int few)), some (T.fr ((eL (fun _ : Unit => D.rng)) lefts)), some (T.fr (D.int x8)), some (tF true (eT4 D.int D.str D.str D.str) s7.1), some (T.fr (D.int s7.2.1)), some ((tDS true (tF true D.int)) s7.2.2), none, none, none, none])) (q6.1, q6.2.1, q6.2.2) (eiw_p (τ := (fr D.int)) (xs := (upI 0 (size).toNat)) (ei_rng1 (eps_cons (ep_var (i := 2) rfl) eps_nil))) rfl (fun _ _ => rfl) (fun s7 x8 => (rw_end (rw_assoc (rw_let (ρ1 := (fun (left : Unit) => [some (T.fr (D.scr script)), some (T.fr (eH67 h_)), some (T.fr (D.int size)), some (T.fr (D.int few)), some (T.fr ((eL (fun _ : Unit => D.rng)) lefts)), some (T.fr (D.int x8)), some (tF true (eT4 D.int D.str D.str D.str) s7.1), some (T.fr (D.int s7.2.1)), some ((tDS true (tF true D.int)) s7.2.2), some (T.fr D.rng), none, none, none])) ((atI lefts (x8 % (62 : Int))).getD default) (sn_set (d := (fun _ : Unit => D.rng) ((atI lefts (x8 % (62 : Int))).getD default)) (ep2 (ep_var (i := 4) rfl) (ep2 (ep_var (i := 5) rfl) ep_c (o_I' (by decide : (0 : Int) < (62 : Int)))) (o_ix il_L.is (x8 % (62 : Int)))) rfl) fun left => (rw_assoc (rw_seq (ρ1 := (fun (q9 : (Tx × Int)) => [some (T.fr (D.scr script)), some (T.fr (eH67 h_)), some (T.fr (D.int size)), some (T.fr (D.int few)), some (T.fr ((eL (fun _ : Unit => D.rng)) lefts)), some (T.fr (D.int x8)), some (tF true (eT4 D.int D.str D.str D.str) s7.1), some (T.fr (D.int s7.2.1)), some ((tDS true (tF true D.int)) s7.2.2), some (T.fr D.rng), none, some (T.fr (D.str q9.1)), some (T.fr (D.int q9.2))])) (sw_unp (τ := (fr (eT2 D.str D.int))) (ew_fn (e := (eT2 D.str D.int)) (ν := fun (q10 : Unit) => m__law_next_gate h_ s7.2.2 s7.2.1 few) (τs := fun (q10 : Unit) => [(T.fr D.rng), (T.fr (eH67 h_)), ((tDS true (tF true D.int)) s7.2.2), (T.fr (D.int s7.2.1)), (T.fr (D.int few))]) (ts' := fun (q10 : Unit) => [(T.fr D.rng), (T.fr (eH67 h_)), ((tDS false (tF false D.int)) s7.2.2), (T.fr (D.int s7.2.1)), (T.fr (D.int few))]) (ews_p0 (eps_cons (ep_var (i := 9) rfl) (eps_cons (ep_var (i := 1) rfl) (eps_cons (ep_var (i := 8) rfl) (eps_cons (ep_var (i := 7) rfl) (eps_cons (ep_var (i := 3) rfl) eps_nil)))))) (fun _ => (by simp only [T.lends, T.lend, lend_tF, lend_tL, lend_tDS, lend_tDI, lend_tDP])) (fun _ => rfl) (fun q10 P Q i h => ⟨h_, s7.2.2, s7.2.1, few, Q, rfl, i, h⟩)) (fun _ => lent_fr _) (fun _ => rfl)) fun q9 => (rw_assoc (rw_let (ρ1 := (fun (kind : Tx) => [some (T.fr (D.scr script)), some (T.fr (eH67 h_)), some (T.fr (D.int size)), some (T.fr (D.int few)), some (T.fr ((eL (fun _ : Unit => D.rng)) lefts)), some (T.fr (D.int x8)), some (tF true (eT4 D.int D.str D.str D.str) s7.1), some (T.fr (D.int s7.2.1)), some ((tDS true (tF true D.int)) s7.2.2), some (T.fr D.rng), some (T.fr (D.str kind)), some (T.fr (D.str q9.1)), some (T.fr (D.int q9.2))])) (if (hasK h_.2.2.1 q9.1) = true then ((getK h_.2.2.1 q9.1).getD default).1 else ((atI h_.2.1 (0 : Int)).getD default)) (sn_set (d := D.str (if (hasK h_.2.2.1 q9.1) = true then ((getK h_.2.2.1 q9.1).getD default).1 else ((atI h_.2.1 (0 : Int)).getD default))) (ep_ifO (τ := (fr D.str)) (v := ((getK h_.2.2.1 q9.1).getD default).1) (v' := ((atI h_.2.1 (0 : Int)).getD default)) (eb_val (ep2 (ep_var (i := 11) rfl) (ep2 (ep_var (i := 1) rfl) ep_c o_H67_paces) (o_inD id_DS q9.1))) (ep2 (ep2 (ep2 (ep_var (i := 1) rfl) ep_c o_H67_paces) (ep_var (i := 11) rfl) (o_ixD id_DS q9.1)) ep_c o_t3_0) (ep2 (ep2 (ep_var (i := 1) rfl) ep_c o_H67_kinds) ep_c (o_ix il_L.is (0 : Int)))) rfl) fun kind => (rw_assoc (rw_seq (ρ1 := (fun (now : Int) => [some (T.fr (D.scr script)), some (T.fr (eH67 h_)), some (T.fr (D.int size)), some (T.fr (D.int few)), some (T.fr ((eL (fun _ : Unit => D.rng)) lefts)), some (T.fr (D.int x8)), some (tF true (eT4 D.int D.str D.str D.str) s7.1), some (T.fr (D.int now)), some ((tDS true (tF true D.int)) s7.2.2), some (T.fr D.rng), some (T.fr (D.str kind)), some (T.fr (D.str q9.1)), some (T.fr (D.int q9.2))])) (sw_set (e := D.int) (ewn0 (τs := fun (q19 : (Int × Unit)) => [(T.fr (D.int s7.2.1)), (T.fr (D.int q19.1))]) (τc := (fr D.int)) (f := fun (q19 : (Int × Unit)) => (max s7.2.1 q19.1)) (ews_consP0 (ta := (T.fr (D.int s7.2.1))) (τs := (fun (q : (Int × Unit)) => [(T.fr (D.int q.1))])) (ep_var (i := 7) rfl) (ews_cons (τ := (fr D.int)) (τs := (fun (_ : Int) (q : Unit) => [])) (ew2_0 (τa := (fr D.int)) (τb := (fr D.int)) (τc := (fr D.int)) (f := (fun (a16 : Int) (b17 : Int) => (a16 + b17))) (ew_p0 (τ := (fr D.int)) (a := q9.2) (ep_var (i := 12) rfl)) (ew2 (τa := (fr (eL D.int))) (τb := fr D.int) (τc := (fr D.int)) (f := fun (a12 : (List Int)) (b13 : Int) => ((atI a12 b13).getD default)) (ew_p0 (τ := (fr (eL D.int))) (a := [(0 : Int), (0 : Int), (0 : Int), (0 : Int), (0 : Int), (0 : Int), (0 : Int), (0 : Int), (0 : Int), (0 : Int), (-(1 : Int)), (1 : Int), (3 : Int), (0 : Int), (0 : Int), (0 : Int)]) (ep_lstE (d := eL D.int [(0 : Int), (0 : Int), (0 : Int), (0 : Int), (0 : Int), (0 : Int), (0 : Int), (0 : Int), (0 : Int), (0 : Int), (-(1 : Int)), (1 : Int), (3 : Int), (0 : Int), (0 : Int), (0 : Int)]) (eps_cons ep_c (eps_cons ep_c (eps_cons ep_c (eps_cons ep_c (eps_cons ep_c (eps_cons ep_c (eps_cons ep_c (eps_cons ep_c (eps_cons ep_c (eps_cons ep_c (eps_cons (ep1 ep_c o_neg) (eps_cons ep_c (eps_cons ep_c (eps_cons ep_c (eps_cons ep_c (eps_cons ep_c eps_nil)))))))))))))))) rfl rfl)) (ew_fn (e := D.int) (ν := fun (q14 : Unit) => m__law_pick (16 : Int)) (τs := fun (q14 : Unit) => [(T.fr D.rng), (T.fr (D.int (16 : Int)))]) (ts' := fun (q14 : Unit) => [(T.fr D.rng), (T.fr (D.int (16 : Int)))]) (ews_p0 (eps_cons (ep_var (i := 9) rfl) (eps_cons ep_c eps_nil))) (fun _ => rfl) (fun _ => rfl) (fun q14 P Q i h => ⟨(16 : Int), Q, rfl, i, h⟩)) (fun _ b => o_ix il_L.is b)) (fun a16 b17 => o_add)) (fun _ => ews_nil))) (fun _ => o_max2)) (fun _ => rfl)) fun now => (rw_p (rg_assoc (rg_let (ρ1 := (fun (come : (List (Tx × (List Int)))) => [some (T.fr (D.scr script)), some (T.fr (eH67 h_)), some (T.fr (D.int size)), some (T.fr (D.int few)), some (T.fr ((eL (fun _ : Unit => D.rng)) lefts)), some (T.fr (D.int x8)), some (tF true (eT4 D.int D.str D.str D.str) s7.1), some (T.fr (D.int now)), some ((tDS true (tF true D.int)) come), some (T.fr D.rng), some (T.fr (D.str kind)), some (T.fr (D.str q9.1)), some (T.fr (D.int q9.2))])) (setK q9.1 (((getK s7.2.2 q9.1).getD default) ++ [now]) s7.2.2) (sn_appF (e := D.int) (v := now) (epl_keyS (k := q9.1) (epl_var rfl) (fun _ => foc_var (τ := (tDS true (tF true D.int))) (v := s7.2.2) (put := fun v => [some (T.fr (D.scr script)), some (T.fr (eH67 h_)), some (T.fr (D.int size)), some (T.fr (D.int few)), some (T.fr ((eL (fun _ : Unit => D.rng)) lefts)), some (T.fr (D.int x8)), some (tF true (eT4 D.int D.str D.str D.str) s7.1), some (T.fr (D.int now)), some ((tDS true (tF true D.int)) v), some (T.fr D.rng), some (T.fr (D.str kind)), some (T.fr (D.str q9.1)), some (T.fr (D.int q9.2))]) rfl (fun _ => rfl)) (ep_var (i := 11) rfl)) (fun o => foc_keyS ((fun _ => foc_var (τ := (tDS true (tF true D.int))) (v := s7.2.2) (put := fun v => [some (T.fr (D.scr script)), some (T.fr (eH67 h_)), some (T.fr (D.int size)), some (T.fr (D.int few)), some (T.fr ((eL (fun _ : Unit => D.rng)) lefts)), some (T.fr (D.int x8)), some (tF true (eT4 D.int D.str D.str D.str) s7.1), some (T.fr (D.int now)), some ((tDS true (tF true D.int)) v), some (T.fr D.rng), some (T.fr (D.str kind)), some (T.fr (D.str q9.1)), some (T.fr (D.int q9.2))]) rfl (fun _ => rfl)) (all_app.mp o).1) (all_app.mp (all_app.mp o).2).2.1) (ep_mD (ep_var (i := 7) rfl)) rfl) fun come => (rg_let0 (ρ1 := (fun (day : (List (Int × Tx × Tx × Tx))) => [some (T.fr (D.scr script)), some (T.fr (eH67 h_)), some (T.fr (D.int size)), some (T.fr (D.int few)), some (T.fr ((eL (fun _ : Unit => D.rng)) lefts)), some (T.fr (D.int x8)), some (tF true (eT4 D.int D.str D.str D.str) day), some (T.fr (D.int now)), some ((tDS true (tF true D.int)) come), some (T.fr D.rng), some (T.fr (D.str kind)), some (T.fr (D.str q9.1)), some (T.fr (D.int q9.2))])) (s7.1 ++ [(now, q9.1, kind, (tl ("" : Str)))]) (sn_appF (e := (eT4 D.int D.str D.str D.str)) (v := (now, q9.1, kind, (tl ("" : Str)))) (epl_var rfl) (fun _ => foc_var (τ := (tF true (eT4 D.int D.str D.str D.str))) (v := s7.1) (put := fun v => [some (T.fr (D.scr script)), some (T.fr (eH67 h_)), some (T.fr (D.int size)), some (T.fr (D.int few)), some (T.fr ((eL (fun _ : Unit => D.rng)) lefts)), some (T.fr (D.int x8)), some (tF true (eT4 D.int D.str D.str D.str) v), some (T.fr (D.int now)), some ((tDS true (tF true D.int)) come), some (T.fr D.rng), some (T.fr (D.str kind)), some (T.fr (D.str q9.1)), some (T.fr (D.int q9.2))]) rfl (fun _ => rfl)) (ep_mD (ep_tupE (d := (eT4 D.int D.str D.str D.str) (now, q9.1, kind, (tl ("" : Str)))) (eps_cons (ep_var (i := 7) rfl) (eps_cons (ep_var (i := 11) rfl) (eps_cons (ep_var (i := 10) rfl) (eps_cons ep_c eps_nil)))) rfl rfl)) rfl) fun day => (rg_nx (m := (day, now, come)) (fun E h => h _ rfl)))))))))))))))) fun s7 => (rw_p0 (rg_retM (m := s7.1) (t := (tF true (eT4 D.int D.str D.str D.str) s7.1)) rfl (fun _ h => h _ rfl))))))))))) i h ?_ ?_ ?_
    · exact fun r => (own_tF (eT4 D.int D.str D.str D.str)) r
    · exact fun _ => rfl
    · exact fun _ => rfl

def f__law_due_st1 (h_ : (List Tx × List Tx × List (Tx × Tx × Int × Int) × Tx)) (come : (List (Tx × (List Int)))) (s2 : (List (Tx × (List Int)))) (x3 : (Int × (Int × Tx × Tx × Tx))) : Step (List (Tx × (List Int))) (Option Int) :=
  let come : (List (Tx × (List Int))) := (setK x3.2.2.1 (((getK s2 x3.2.2.1).getD default) ++ [x3.2.1]) s2)
  if (hasK h_.2.2.1 x3.2.2.1) = true then
  (let q4 : (Tx × Int × Int) := ((getK h_.2.2.1 x3.2.2.1).getD default)
  let many : Int := (((getK come x3.2.2.1).getD default).length : Int)
  let rooms : (List Int) := (((getK come x3.2.2.1).getD default).map fun (x5 : Int) => (q4.2.1 + ((x3.2.1 - x5) / q4.2.2)))
  if ((!(decide (x3.2.2.2.1 = q4.1))) || (((enumL 0 rooms).map fun (x6 : (Int × Int)) => (decide (x6.2 < (many - x6.1)))).any id)) = true then
  ((Step.rt (some x3.1) : Step (List (Tx × (List Int))) (Option Int)))
  else
  ((Step.nx come : Step (List (Tx × (List Int))) (Option Int))))
  else
  ((Step.nx come : Step (List (Tx × (List Int))) (Option Int)))
def ok__law_due_st1 (h_ : (List Tx × List Tx × List (Tx × Tx × Int × Int) × Tx)) (come : (List (Tx × (List Int)))) (s2 : (List (Tx × (List Int)))) (x3 : (Int × (Int × Tx × Tx × Tx))) : Prop :=
  All [hasK s2 x3.2.2.1 = true,
  ((getK s2 x3.2.2.1).getD default).length < sizeLine,
  (let come : (List (Tx × (List Int))) := (setK x3.2.2.1 (((getK s2 x3.2.2.1).getD default) ++ [x3.2.1]) s2)
  All [(if (hasK h_.2.2.1 x3.2.2.1) = true then All [hasK h_.2.2.1 x3.2.2.1 = true,
  (let q4 : (Tx × Int × Int) := ((getK h_.2.2.1 x3.2.2.1).getD default)
  All [hasK come x3.2.2.1 = true,
  (let many : Int := (((getK come x3.2.2.1).getD default).length : Int)
  All [hasK come x3.2.2.1 = true,
  ∀ x5 ∈ ((getK come x3.2.2.1).getD default), All [CDiv (x3.2.1 - x5) q4.2.2]])])] else True)])]
def f__law_due (h_ : (List Tx × List Tx × List (Tx × Tx × Int × Int) × Tx)) (day : (List (Int × Tx × Tx × Tx))) : (Option Int) :=
  let come : (List (Tx × (List Int))) := (h_.1.map fun (x1 : Tx) => (x1, ([] : (List Int))))
  ((loopF (f__law_due_st1 h_ come) (enumL 0 day) come).on (fun (s2 : (List (Tx × (List Int)))) => (none : (Option Int))) fun r7 => r7)
def ok__law_due (h_ : (List Tx × List Tx × List (Tx × Tx × Int × Int) × Tx)) (day : (List (Int × Tx × Tx × Tx))) : Prop :=
  All [∀ x1 ∈ h_.1, True,
  (h_.1.map fun (x1 : Tx) => x1).Nodup,
  (let come : (List (Tx × (List Int))) := (h_.1.map fun (x1 : Tx) => (x1, ([] : (List Int))))
  All [okF (ok__law_due_st1 h_ come) (f__law_due_st1 h_ come) (enumL 0 day) come,
  ((loopF (f__law_due_st1 h_ come) (enumL 0 day) come).on (fun (s2 : (List (Tx × (List Int)))) => True) fun _ => True)])]
def S__law_due : List T → (D → Prop) → Prop := fun ts P => ∃ h_ : (List Tx × List Tx × List (Tx × Tx × Int × Int) × Tx), ∃ day : (List (Int × Tx × Tx × Tx)), ts = [(T.fr (eH67 h_)), (T.fr ((eL (eT4 D.int D.str D.str D.str)) day))] ∧ ok__law_due h_ day ∧ P ((eO D.int) (f__law_due h_ day))
theorem fn__law_due (A : At K mg "_law_due" "_law_due" s__law_due) (B : Bl mg) : Fn P w K mg base "_law_due" 1 2 (0) S__law_due := by
  have sc : FnScope ["h", "day", "come", "number", "time", "gate", "kind", "parcel", "many", "rooms", "own", "burst", "gap", "one", "k", "room"] ["h", "day"] (defScope s__law_due) := ⟨rfl, rfl, rfl, by decide +kernel, rfl, by decide +kernel, by decide +kernel⟩
  have nd := sc.nd
  refine Fn.of (k := 0) A sc (fun _ _ _ _ _ _ us hl => match us, hl with | [_, _], _ => rfl) rfl ?hc (fun f cdv A outer s H E hr =>
      (wss_cons (ws_nM (nn := 0) rfl (ws_setM (i := 2) nd rfl (loc_of rfl) (wm_mk (wk_dict rfl rfl B.dict (wk_lc (own := [("gate", 5)]) (p := (.nm 5)) rfl nd (wi_seq (we_ix (ix_V (hu_of hr)) l_ix (we_var (pv 0)) we_str (fun _ _ => rfl))) (blkOk_by (by rfl)) (fun _ _ _ _ _ => (pg_name (i := 5) nd rfl (loc_of rfl))) (fun _ _ _ _ _ => wts_nil) (fun _ _ _ _ _ => (wk_tup (wks_cons (wk_we (we_var (pv 5))) (wks_cons (wk_lst wks_nil) wks_nil)))))))))
      (wss_cons (ws_forV [3, 4, 5, 6, 7, 8, 9, 10, 11, 12] (p := (.tu (.cons (.nm 3) (.cons (.tu (.cons (.nm 4) (.cons (.nm 5) (.cons (.nm 6) (.cons (.nm 7) .nil))))) .nil)))) PassesOwn.never rfl (wi_enum rfl B.enumerate (wa_cons (we_var (pv 1)) wa_nil)) (pg_tup rfl (pgs_cons (pg_name (i := 3) nd rfl (loc_of rfl)) (pgs_cons (pg_tup rfl (pgs_cons (pg_name (i := 4) nd rfl (loc_of rfl)) (pgs_cons (pg_name (i := 5) nd rfl (loc_of rfl)) (pgs_cons (pg_name (i := 6) nd rfl (loc_of rfl)) (pgs_cons (pg_name (i := 7) nd rfl (loc_of rfl)) pgs_nil))))) pgs_nil)))
      (wss_cons (ws_appP (wp_key (hu_of hr) (wp_var (pv 2)) (we_var (pv 5)) (fun _ _ => rfl)) (wk_we (we_var (pv 4))))
      (wss_one (ws_if (wt_cmp (op_inV (hu_of hr)) l_in (we_var (pv 5)) (we_ix (ix_V (hu_of hr)) l_ix (we_var (pv 0)) we_str (fun _ _ => rfl)) rfl) (wss_cons (ws_unp (p := (.tu (.cons (.nm 10) (.cons (.nm 11) (.cons (.nm 12) .nil))))) (we_ix (ix_V (hu_of hr)) l_ix (we_ix (ix_V (hu_of hr)) l_ix (we_var (pv 0)) we_str (fun _ _ => rfl)) (we_var (pv 5)) (fun _ _ => rfl)) (pg_tup rfl (pgs_cons (pg_name (i := 10) nd rfl (loc_of rfl)) (pgs_cons (pg_name (i := 11) nd rfl (loc_of rfl)) (pgs_cons (pg_name (i := 12) nd rfl (loc_of rfl)) pgs_nil)))))
      (wss_cons (ws_set (i := 8) nd rfl (loc_of rfl) (we_callB call_lenV l_len rfl B.len (by decide +kernel) (wa_cons (we_ix (ix_V (hu_of hr)) l_ix (we_var (pv 2)) (we_var (pv 5)) (fun _ _ => rfl)) wa_nil)))
      (wss_cons (ws_setLc (own := [("one", 13)]) (p := (.nm 13)) (i := 9) rfl nd rfl rfl (sw_true rfl rfl rfl (by decide +kernel)) (wi_seq (we_ix (ix_V (hu_of hr)) l_ix (we_var (pv 2)) (we_var (pv 5)) (fun _ _ => rfl))) (blkOk_by (by rfl)) (fun _ _ _ _ _ => (pg_name (i := 13) nd rfl (loc_of rfl))) (fun _ _ _ _ _ => wts_nil) (fun _ _ _ _ _ => (we_op op_addV l_add (we_var (pv 11)) (we_op op_fdiv l_div (we_op op_sub l_sub (we_var (pv 4)) (we_var (pv 13))) (we_var (pv 12))))))
      (wss_one (ws_if (wt_ww (ww_or (wt_cmp (op_neD hr.units) l_ne (we_var (pv 6)) (we_var (pv 10)) (nomark _)) (ww_one (wt_val (we_callB (cr_any rfl) l_any rfl B.any (by decide +kernel) (wa_cons (we_lc (own := [("k", 14), ("room", 15)]) (p := (.tu (.cons (.nm 14) (.cons (.nm 15) .nil)))) rfl nd (wi_enum rfl B.enumerate (wa_cons (we_var (pv 9)) wa_nil)) (blkOk_by (by rfl)) (fun _ _ _ _ _ => (pg_tup rfl (pgs_cons (pg_name (i := 14) nd rfl (loc_of rfl)) (pgs_cons (pg_name (i := 15) nd rfl (loc_of rfl)) pgs_nil)))) (fun _ _ _ _ _ => wts_nil) (fun _ _ _ _ _ => (we_cmp op_gt l_gt (we_op op_sub l_sub (we_var (pv 8)) (we_var (pv 14))) (we_var (pv 15)) (nomark _)))) wa_nil))) (.inr rfl)))) (wss_one (ws_ret (we_var (pv 3)))) wss_nil))))) wss_nil))))
      (wss_wipe [3, 4, 5, 6, 7, 8, 9, 10, 11, 12] (wss_one (ws_ret we_non)))))) ?hs
  case hc => walk_at "cst"
  case hs =>
    intro ts Q hl h
    obtain ⟨h_, day, rfl, ok, h⟩ := h
    refine rg_pure (ρ := [some (T.fr (eH67 h_)), some (T.fr ((eL (eT4 D.int D.str D.str D.str)) day)), none, none, none, none, none, none, none, none, none, none, none, none, none, none]) (e := fun r => (eO D.int) r) (rg_end (rg_assoc (rg_let (ρ1 := (fun (come : (List (Tx × (List Int)))) => [some (T.fr (eH67 h_)), some (T.fr ((eL (eT4 D.int D.str D.str D.str)) day)), some ((tDS true (tF true D.int)) come), none, none, none, none, none, none, none, none, none, none, none, none, none])) (h_.1.map fun (x1 : Tx) => (x1, ([] : (List Int)))) (sn_mk (t := ((tDS true (tF true D.int)) (h_.1.map fun (x1 : Tx) => (x1, ([] : (List Int)))))) (ep_dictS (τ := (tF true D.int)) (fun x1 => x1) (fun x1 => ([] : (List Int))) (ep_mLc (oC := []) (f := (fun x1 => T.tup [(T.fr (D.str x1)), (tF true D.int ([] : (List Int)))])) (ρb := fun x1 => [some (T.fr (eH67 h_)), some (T.fr ((eL (eT4 D.int D.str D.str D.str)) day)), none, none, none, some (T.fr (D.str x1)), none, none, none, none, none, none, none, none, none, none]) (ei_seq (ep2 (ep_var (i := 0) rfl) ep_c o_H67_gates) il_L.is) hC_T (fun _ => rfl) (fun x1 => (ep_mTup (eps_cons (ep_mD (ep_var (i := 5) rfl)) (eps_cons (ep_mLstE (t := (tF true D.int ([] : (List Int)))) eps_nil rfl rfl) eps_nil)) rfl))) (fun _ => rfl)) rfl rfl rfl) fun come => (rg_assoc (rg_wa (rg_forF (gF := (rtG (fun r => (eO D.int) r))) (S := (List (Tx × (List Int)))) (N := (Option Int)) (vs := [3, 4, 5, 6, 7, 8, 9, 10, 11, 12]) (R := (fun (s2 : (List (Tx × (List Int)))) => [some (T.fr (eH67 h_)), some (T.fr ((eL (eT4 D.int D.str D.str D.str)) day)), some ((tDS true (tF true D.int)) s2), none, none, none, none, none, none, none, none, none, none, none, none, none])) (ρb := (fun (s2 : (List (Tx × (List Int)))) (x3 : (Int × (Int × Tx × Tx × Tx))) => [some (T.fr (eH67 h_)), some (T.fr ((eL (eT4 D.int D.str D.str D.str)) day)), some ((tDS true (tF true D.int)) s2), some (T.fr (D.int x3.1)), some (T.fr (D.int x3.2.1)), some (T.fr (D.str x3.2.2.1)), some (T.fr (D.str x3.2.2.2.1)), some (T.fr (D.str x3.2.2.2.2)), none, none, none, none, none, none, none, none])) (inj := fun r7 => r7) come (ei_enum (eps_cons (ep_var (i := 1) rfl) eps_nil) il_L) rfl (fun _ _ => rfl) (fun s2 x3 => (rg_end (rg_assoc (rg_let (ρ1 := (fun (come : (List (Tx × (List Int)))) => [some (T.fr (eH67 h_)), some (T.fr ((eL (eT4 D.int D.str D.str D.str)) day)), some ((tDS true (tF true D.int)) come), some (T.fr (D.int x3.1)), some (T.fr (D.int x3.2.1)), some (T.fr (D.str x3.2.2.1)), some (T.fr (D.str x3.2.2.2.1)), some (T.fr (D.str x3.2.2.2.2)), none, none, none, none, none, none, none, none])) (setK x3.2.2.1 (((getK s2 x3.2.2.1).getD default) ++ [x3.2.1]) s2) (sn_appF (e := D.int) (v := x3.2.1) (epl_keyS (k := x3.2.2.1) (epl_var rfl) (fun _ => foc_var (τ := (tDS true (tF true D.int))) (v := s2) (put := fun v => [some (T.fr (eH67 h_)), some (T.fr ((eL (eT4 D.int D.str D.str D.str)) day)), some ((tDS true (tF true D.int)) v), some (T.fr (D.int x3.1)), some (T.fr (D.int x3.2.1)), some (T.fr (D.str x3.2.2.1)), some (T.fr (D.str x3.2.2.2.1)), some (T.fr (D.str x3.2.2.2.2)), none, none, none, none, none, none, none, none]) rfl (fun _ => rfl)) (ep_var (i := 5) rfl)) (fun o => foc_keyS ((fun _ => foc_var (τ := (tDS true (tF true D.int))) (v := s2) (put := fun v => [some (T.fr (eH67 h_)), some (T.fr ((eL (eT4 D.int D.str D.str D.str)) day)), some ((tDS true (tF true D.int)) v), some (T.fr (D.int x3.1)), some (T.fr (D.int x3.2.1)), some (T.fr (D.str x3.2.2.1)), some (T.fr (D.str x3.2.2.2.1)), some (T.fr (D.str x3.2.2.2.2)), none, none, none, none, none, none, none, none]) rfl (fun _ => rfl)) (all_app.mp o).1) (all_app.mp (all_app.mp o).2).2.1) (ep_mD (ep_var (i := 4) rfl)) rfl) fun come => (rg_if (c := (hasK h_.2.2.1 x3.2.2.1)) (eb_val (ep2 (ep_var (i := 5) rfl) (ep2 (ep_var (i := 0) rfl) ep_c o_H67_paces) (o_inD id_DS x3.2.2.1))) (rg_assoc (rg_let (ρ1 := (fun (q4 : (Tx × Int × Int)) => [some (T.fr (eH67 h_)), some (T.fr ((eL (eT4 D.int D.str D.str D.str)) day)), some ((tDS true (tF true D.int)) come), some (T.fr (D.int x3.1)), some (T.fr (D.int x3.2.1)), some (T.fr (D.str x3.2.2.1)), some (T.fr (D.str x3.2.2.2.1)), some (T.fr (D.str x3.2.2.2.2)), none, none, some (T.fr (D.str q4.1)), some (T.fr (D.int q4.2.1)), some (T.fr (D.int q4.2.2)), none, none, none])) ((getK h_.2.2.1 x3.2.2.1).getD default) (sn_unp (t := (T.fr ((eT3 D.str D.int D.int) ((getK h_.2.2.1 x3.2.2.1).getD default)))) (ep2 (ep2 (ep_var (i := 0) rfl) ep_c o_H67_paces) (ep_var (i := 5) rfl) (o_ixD id_DS x3.2.2.1)) (lent_fr _) rfl) fun q4 => (rg_assoc (rg_let (ρ1 := (fun (many : Int) => [some (T.fr (eH67 h_)), some (T.fr ((eL (eT4 D.int D.str D.str D.str)) day)), some ((tDS true (tF true D.int)) come), some (T.fr (D.int x3.1)), some (T.fr (D.int x3.2.1)), some (T.fr (D.str x3.2.2.1)), some (T.fr (D.str x3.2.2.2.1)), some (T.fr (D.str x3.2.2.2.2)), some (T.fr (D.int many)), none, some (T.fr (D.str q4.1)), some (T.fr (D.int q4.2.1)), some (T.fr (D.int q4.2.2)), none, none, none])) (((getK come x3.2.2.1).getD default).length : Int) (sn_set (d := D.int (((getK come x3.2.2.1).getD default).length : Int)) (epn (eps_cons (ep2 (ep_var (i := 2) rfl) (ep_var (i := 5) rfl) (o_ixD id_tS x3.2.2.1)) eps_nil) (o_len il_O.is)) rfl) fun many => (rg_assoc (rg_let0 (ρ1 := (fun (rooms : (List Int)) => [some (T.fr (eH67 h_)), some (T.fr ((eL (eT4 D.int D.str D.str D.str)) day)), some ((tDS true (tF true D.int)) come), some (T.fr (D.int x3.1)), some (T.fr (D.int x3.2.1)), some (T.fr (D.str x3.2.2.1)), some (T.fr (D.str x3.2.2.2.1)), some (T.fr (D.str x3.2.2.2.2)), some (T.fr (D.int many)), some (T.fr ((eL D.int) rooms)), some (T.fr (D.str q4.1)), some (T.fr (D.int q4.2.1)), some (T.fr (D.int q4.2.2)), none, none, none])) (((getK come x3.2.2.1).getD default).map fun (x5 : Int) => (q4.2.1 + ((x3.2.1 - x5) / q4.2.2))) (sn_set (d := (eL D.int) (((getK come x3.2.2.1).getD default).map fun (x5 : Int) => (q4.2.1 + ((x3.2.1 - x5) / q4.2.2)))) (ep_map (oC := []) (e := D.int) (f := (fun x5 => (q4.2.1 + ((x3.2.1 - x5) / q4.2.2)))) (ρb := fun x5 => [some (T.fr (eH67 h_)), some (T.fr ((eL (eT4 D.int D.str D.str D.str)) day)), some ((tDS true (tF true D.int)) come), some (T.fr (D.int x3.1)), some (T.fr (D.int x3.2.1)), some (T.fr (D.str x3.2.2.1)), some (T.fr (D.str x3.2.2.2.1)), some (T.fr (D.str x3.2.2.2.2)), some (T.fr (D.int many)), none, some (T.fr (D.str q4.1)), some (T.fr (D.int q4.2.1)), some (T.fr (D.int q4.2.2)), some (T.fr (D.int x5)), none, none]) (ei_seq (ep2 (ep_var (i := 2) rfl) (ep_var (i := 5) rfl) (o_ixD id_tS x3.2.2.1)) il_O.is) hC_T (fun _ => rfl) (fun x5 => (ep2 (ep_var (i := 11) rfl) (ep2 (ep2 (ep_var (i := 4) rfl) (ep_var (i := 13) rfl) o_sub) (ep_var (i := 12) rfl) o_I) o_add))) rfl) fun rooms => (rg_if0 (c := ((!(decide (x3.2.2.2.1 = q4.1))) || (((enumL 0 rooms).map fun (x6 : (Int × Int)) => (decide (x6.2 < (many - x6.1)))).any id))) (eb_or (eb_val (ep2 (ep_var (i := 6) rfl) (ep_var (i := 10) rfl) (o_ne eq_str x3.2.2.2.1 q4.1))) (eb_val (epn (eps_cons (ep_map0 (oC := []) (e := D.bl) (f := (fun x6 => (decide (x6.2 < (many - x6.1))))) (ρb := fun x6 => [some (T.fr (eH67 h_)), some (T.fr ((eL (eT4 D.int D.str D.str D.str)) day)), some ((tDS true (tF true D.int)) come), some (T.fr (D.int x3.1)), some (T.fr (D.int x3.2.1)), some (T.fr (D.str x3.2.2.1)), some (T.fr (D.str x3.2.2.2.1)), some (T.fr (D.str x3.2.2.2.2)), some (T.fr (D.int many)), some (T.fr ((eL D.int) rooms)), some (T.fr (D.str q4.1)), some (T.fr (D.int q4.2.1)), some (T.fr (D.int q4.2.2)), none, some (T.fr (D.int x6.1)), some (T.fr (D.int x6.2))]) (ei_enum (eps_cons (ep_var (i := 9) rfl) eps_nil) il_L) hC_T (fun _ => rfl) (fun x6 => (ep2 (ep2 (ep_var (i := 8) rfl) (ep_var (i := 14) rfl) o_sub) (ep_var (i := 15) rfl) o_I0))) eps_nil) (o_any ib_L)))) (rg_ret (m := (Step.rt (some x3.1) : Step (List (Tx × (List Int))) (Option Int))) (t := (T.fr ((eO D.int) (some x3.1)))) (ep_var (i := 3) rfl) (fun _ h => h _)) (rg_skip (rg_nx (m := (Step.nx come : Step (List (Tx × (List Int))) (Option Int))) (fun E h => h _ rfl)))))))))) (rg_skip (rg_nx (m := (Step.nx come : Step (List (Tx × (List Int))) (Option Int))) (fun E h => h _ rfl)))))))) (fun s2 => (rg_ret (m := (none : (Option Int))) (t := (T.fr ((eO D.int) (none : (Option Int))))) ep_c (fun _ h => h _))) (fun _ _ _ _ _ g => g))))))) ?_ ?_
    · exact ok
    · exact h
def f_read_plant (t : Tx) : PlD := (readRows {} (splitC 10 t)).getD {}
def ok_read_plant (t : Tx) : Prop := t.length + 2 ≤ sizeLine ∧ (readRows {} (splitC 10 t)).isSome = true
def S_read_plantT (C : Addr) : List T → (D → Prop) → Prop := fun ts P => ∃ text : Tx, ts = [.fr (.str text)] ∧ ok_read_plant text ∧ P (plD C (f_read_plant text))
theorem Fn.imp {x : Str} {k n c : Nat} {S S' : List T → (D → Prop) → Prop} (F : Fn P w K mg base x k n c S) (h : ∀ ts P, S' ts P → S ts P) : Fn P w K mg base x k n c S' := F.ofP fun vs H Q E ⟨G, ts, fp, P, hd, r, l, hn, hc, hs, kk⟩ => ⟨G, ts, fp, P, hd, r, l, hn, hc, h _ _ hs, kk⟩
theorem fn_read_plantT {C : Addr} (F : Fn P w K mg base "read_plant" 6 1 (0) (S_read_plant C)) : Fn P w K mg base "read_plant" 6 1 (0) (S_read_plantT C) := Fn.imp F fun ts P ⟨text, e, ⟨h1, h2⟩, h⟩ => by
  unfold f_read_plant at h
  cases q : readRows {} (splitC 10 text) with
  | none => rw [q] at h2; cases h2
  | some p => rw [q] at h; exact ⟨text, p, e, h1, q, h⟩

def toGood (x : Int × Tx × Tx × Tx) : Good := ⟨x.1, x.2.1, x.2.2.1, x.2.2.2⟩
def f_pace_fault (p : PlD) (day : List (Int × Tx × Tx × Tx)) : Option Int := paceFault p 0 [] (day.map toGood)
def ok_pace_fault (p : PlD) (day : List (Int × Tx × Tx × Tx)) : Prop := (∀ q ∈ p.paces, 0 < q.2.2.2 ∧ q.2.2.2 < 1073741824) ∧ day.length < 1000000
def S_pace_faultT (C : Addr) : List T → (D → Prop) → Prop := fun ts P => ∃ p : PlD, ∃ day : List (Int × Tx × Tx × Tx), ts = [.fr (plD C p), .fr (eL (eT4 D.int D.str D.str D.str) day)] ∧ ok_pace_fault p day ∧ P (eO D.int (f_pace_fault p day))
theorem optD_eO (o : Option Int) : optD o = eO D.int o := by cases o <;> rfl
theorem fn_pace_faultT {C : Addr} (F : Fn P w K mg base "pace_fault" 2 2 (0) (S_pace_fault C)) : Fn P w K mg base "pace_fault" 2 2 (0) (S_pace_faultT C) := Fn.imp F fun ts P ⟨p, day, e, ⟨h1, h2⟩, h⟩ => by
  refine ⟨p, day.map toGood, by rw [e, List.map_map]; rfl, h1, by rw [List.length_map]; exact h2, ?_⟩
  rw [optD_eO]; exact h

def f_law_st1 (h_ : (List Tx × List Tx × List (Tx × Tx × Int × Int) × Tx)) (q5 : (PlD × Int)) (day : (List (Int × Tx × Tx × Tx))) (s35 : (List (Int × Tx × Tx × Tx))) (x36 : Int) : Step (List (Int × Tx × Tx × Tx)) Bool :=
  let q37 : ((List (Int × Tx × Tx × Tx)) × (Option Int)) := (s35, (f__law_due h_ s35))
  if ((!(f__law_same (f_pace_fault q5.1 q37.1) q37.2)) || (!(decide (q37.1 = s35)))) = true then
  ((Step.rt false : Step (List (Int × Tx × Tx × Tx)) Bool))
  else
  (if q37.2.isSome = true then
  (let day : (List (Int × Tx × Tx × Tx)) := ((cut s35 none (some (unO q37.2))) ++ (cut s35 (some ((unO q37.2) + (1 : Int))) none))
  (Step.nx day : Step (List (Int × Tx × Tx × Tx)) Bool))
  else
  ((Step.nx s35 : Step (List (Int × Tx × Tx × Tx)) Bool)))
def ok_law_st1 (h_ : (List Tx × List Tx × List (Tx × Tx × Int × Int) × Tx)) (q5 : (PlD × Int)) (s35 : (List (Int × Tx × Tx × Tx))) (x36 : Int) : Prop :=
  All [ok__law_due h_ s35,
  (let q37 : ((List (Int × Tx × Tx × Tx)) × (Option Int)) := (s35, (f__law_due h_ s35))
  All [ok_pace_fault q5.1 q37.1,
  ok__law_same (f_pace_fault q5.1 q37.1) q37.2,
  (if ((!(f__law_same (f_pace_fault q5.1 q37.1) q37.2)) || (!(decide (q37.1 = s35)))) = true then True else All [(if q37.2.isSome = true then All [q37.2.isSome = true,
  q37.2.isSome = true,
  (cut s35 none (some (unO q37.2))).length + (cut s35 (some ((unO q37.2) + (1 : Int))) none).length ≤ sizeLine] else True)])])]
def m_law (script : (List Int)) : WPt Bool := fun P =>
  m__law_left script (0 : Int) fun (d2 : Unit) => let left : Unit := d2
  m__law_plant  fun (d4 : (List Tx × List Tx × List (Tx × Tx × Int × Int) × Tx)) => let h_ : (List Tx × List Tx × List (Tx × Tx × Int × Int) × Tx) := d4
  All [ok_read_plant h_.2.2.2] ∧ (let q5 : (PlD × Int) := ((f_read_plant h_.2.2.2), (h_.1.length : Int))
  (fun (P : Int → Prop) => m__law_pick (2 : Int) fun (d7 : Int) => if (decide (d7 = (0 : Int))) = true then m__law_pick (51 : Int) fun (d11 : Int) => P ((150 : Int) + d11) else m__law_pick (41 : Int) fun (d15 : Int) => P d15) fun (v16 : Int) => let size : Int := v16
  m__law_pick q5.2 fun (d18 : Int) => m__law_pick (3 : Int) fun (d26 : Int) => All [(atI [(1 : Int), q5.2, ((1 : Int) + d18)] d26).isSome = true] ∧ (m__law_day script h_ size ((atI [(1 : Int), q5.2, ((1 : Int) + d18)] d26).getD default) fun (day : (List (Int × Tx × Tx × Tx))) => (fun (P : (List (Int × Tx × Tx × Tx)) → Prop) => (fun P => m__law_pick (3 : Int) fun (d29 : Int) => if (decide (d29 = (0 : Int))) = true then P (!(decide (day = ([] : (List (Int × Tx × Tx × Tx)))))) else P false) fun c => if c = true then
  (m__law_pick size fun (d34 : Int) => let at_ : Int := d34
  All [(atI day at_).isSome = true,
  (atI h_.2.1 (-(1 : Int))).isSome = true,
  (ixN day.length at_).isSome = true] ∧ P (let day : (List (Int × Tx × Tx × Tx)) := (setI day at_ ((((atI day at_).getD default).1, ((atI day at_).getD default).2.1).1, (((atI day at_).getD default).1, ((atI day at_).getD default).2.1).2, (((atI h_.2.1 (-(1 : Int))).getD default), (tl ("p" : Str))).1, (((atI h_.2.1 (-(1 : Int))).getD default), (tl ("p" : Str))).2))
  day))
  else
  (P (day))) fun (s32 : (List (Int × Tx × Tx × Tx))) => All [-(2 ^ 62) ≤ (3 : Int) ∧ (3 : Int) < 2 ^ 62,
  okF (ok_law_st1 h_ q5) (f_law_st1 h_ q5 day) (upI 0 ((3 : Int)).toNat) s32,
  ((loopF (f_law_st1 h_ q5 day) (upI 0 ((3 : Int)).toNat) s32).on (fun (s35 : (List (Int × Tx × Tx × Tx))) => True) fun _ => True)] ∧ P (((loopF (f_law_st1 h_ q5 day) (upI 0 ((3 : Int)).toNat) s32).on (fun (s35 : (List (Int × Tx × Tx × Tx))) => true) fun r38 => r38))))
def S_law : List T → (D → Prop) → Prop := fun ts P => ∃ script : (List Int), ∃ R : Bool → Prop, ts = [(T.fr (D.scr script))] ∧ (∀ r, R r → P (D.bl r)) ∧ m_law script R
theorem fn_law {f : Addr} {fd : FuncData} (A : FunD K "law" "law" (defArgs s_law) (defBody s_law) (defScope s_law) [] [] f fd) (B : Bl mg) {C : Addr} (F__law_left : Fn P w K mg base "_law_left" 1 2 (0) S__law_leftR) (F__law_plant : Fn P w K mg base "_law_plant" 5 1 (2 ^ 130) S__law_plant) (F_read_plant : Fn P w K mg base "read_plant" 6 1 (0) (S_read_plantT C)) (F__law_pick : Fn P w K mg base "_law_pick" 2 2 (1) S__law_pickT) (F__law_due : Fn P w K mg base "_law_due" 1 2 (0) S__law_due) (F__law_same : Fn P w K mg base "_law_same" 1 2 (0) S__law_same) (F_pace_fault : Fn P w K mg base "pace_fault" 2 2 (0) (S_pace_faultT C)) (F__law_day : FnM P w K mg base "_law_day" 4 4 (2 ^ 130) S__law_day) : FnOk P w K mg base CX0 7 f fd ["script"] (spP K 1 (2 ^ 140) S_law) := by
  have sc : FnScope ["script", "left", "h", "size", "day", "turn", "plant", "many", "at", "handed", "due"] ["script"] (defScope s_law) := ⟨rfl, rfl, rfl, by decide +kernel, rfl, by decide +kernel, by decide +kernel⟩
  have nd := sc.nd
  refine law_ok (k := 6) A sc rfl ?hc (fun f cdv A outer s H E hr =>
      (wss_cons (ws_set (i := 1) nd rfl (loc_of rfl) (we_fn F__law_left hr (by decide) rfl (wa_cons (we_var (pv 0)) (wa_cons we_int wa_nil))))
      (wss_cons (ws_set (i := 2) nd rfl (loc_of rfl) (we_fn F__law_plant hr (by decide) rfl (wa_cons (we_var (pv 1)) wa_nil)))
      (wss_cons (ws_par (i := 6) (j := 7) rfl nd rfl rfl (by decide) rfl rfl (wa_cons (we_fn F_read_plant hr (by decide) rfl (wa_cons (we_ix (ix_V (hu_of hr)) l_ix (we_var (pv 2)) we_str (fun _ _ => rfl)) wa_nil)) (wa_cons (we_callB call_lenV l_len rfl B.len (by decide +kernel) (wa_cons (we_ix (ix_V (hu_of hr)) l_ix (we_var (pv 2)) we_str (fun _ _ => rfl)) wa_nil)) wa_nil)) rfl)
      (wss_cons (ws_set (i := 3) nd rfl (loc_of rfl) (we_ifE (wt_cmp (op_eqD hr.units) l_eq (we_fn F__law_pick hr (by decide) rfl (wa_cons (we_var (pv 1)) (wa_cons we_int wa_nil))) we_int (nomark _)) (we_op op_addV l_add we_int (we_fn F__law_pick hr (by decide) rfl (wa_cons (we_var (pv 1)) (wa_cons we_int wa_nil)))) (we_fn F__law_pick hr (by decide) rfl (wa_cons (we_var (pv 1)) (wa_cons we_int wa_nil)))))
      (wss_cons (ws_nM (nn := 0) rfl (ws_setM (i := 4) nd rfl (loc_of rfl) (wm_call F__law_day LamX.takes0 hr (by decide) rfl (wam_val (we_var (pv 0)) (wam_val (we_var (pv 2)) (wam_val (we_var (pv 3)) (wam_val (we_ix (ix_V (hu_of hr)) l_ix (we_lst (wa_cons we_int (wa_cons (we_var (pv 7)) (wa_cons (we_op op_addV l_add we_int (we_fn F__law_pick hr (by decide) rfl (wa_cons (we_var (pv 1)) (wa_cons (we_var (pv 7)) wa_nil)))) wa_nil)))) (we_fn F__law_pick hr (by decide) rfl (wa_cons (we_var (pv 1)) (wa_cons we_int wa_nil))) (fun _ _ => rfl)) wam_nil)))))))
      (wss_cons (ws_if (wt_ww (ww_and (wt_cmp (op_eqD hr.units) l_eq (we_fn F__law_pick hr (by decide) rfl (wa_cons (we_var (pv 1)) (wa_cons we_int wa_nil))) we_int (nomark _)) (ww_one (wt_cmp (op_neD hr.units) l_ne (we_var (pv 4)) (we_lst wa_nil) (nomark _)) (.inl rfl)))) (wss_cons (ws_set (i := 8) nd rfl (loc_of rfl) (we_fn F__law_pick hr (by decide) rfl (wa_cons (we_var (pv 1)) (wa_cons (we_var (pv 3)) wa_nil))))
      (wss_one (ws_putP (hu_of hr) (wk_we (we_op op_addV l_add (we_sl (we_ix (ix_V (hu_of hr)) l_ix (we_var (pv 4)) (we_var (pv 8)) (fun _ _ => rfl)) wo_none (wo_some we_int)) (we_tup (wa_cons (we_ix (ix_V (hu_of hr)) l_ix (we_ix (ix_V (hu_of hr)) l_ix (we_var (pv 2)) we_str (fun _ _ => rfl)) (we_un un_neg l_neg we_int) (fun _ _ => rfl)) (wa_cons we_str wa_nil))))) (wp_var (pv 4)) (we_var (pv 8))))) wss_nil)
      (wss_wipe [8] (wss_freeze (i := 4) (wss_cons (ws_forV [5, 9, 10] (p := (.nm 5)) PassesOwn.never rfl (wi_rng1 rfl B.range (wa_cons we_int wa_nil)) (pg_name (i := 5) nd rfl (loc_of rfl))
      (wss_cons (ws_par (i := 9) (j := 10) rfl nd rfl rfl (by decide) rfl rfl (wa_cons (we_callTy call_list_of l_list rfl B.list (by decide +kernel) (wa_cons (we_var (pv 4)) wa_nil)) (wa_cons (we_fn F__law_due hr (by decide) rfl (wa_cons (we_var (pv 2)) (wa_cons (we_var (pv 4)) wa_nil))) wa_nil)) rfl)
      (wss_cons (ws_if (wt_ww (ww_or (wt_not (wt_val (we_fn F__law_same hr (by decide) rfl (wa_cons (we_fn F_pace_fault hr (by decide) rfl (wa_cons (we_var (pv 6)) (wa_cons (we_var (pv 9)) wa_nil))) (wa_cons (we_var (pv 10)) wa_nil))))) (ww_one (wt_cmp (op_neD hr.units) l_ne (we_var (pv 9)) (we_var (pv 4)) (nomark _)) (.inr rfl)))) (wss_one (ws_ret we_bl)) wss_nil)
      (wss_one (ws_if (wt_cmp op_notN l_notN (we_var (pv 10)) we_non (nomark _)) (wss_one (ws_nM (nn := 0) rfl (ws_setM (i := 4) nd rfl (loc_of rfl) (wm_mk (wk_we (we_op op_addV l_add (we_sl (we_var (pv 4)) wo_none (wo_some (we_var (pv 10)))) (we_sl (we_var (pv 4)) (wo_some (we_op op_addV l_add (we_var (pv 10)) we_int)) wo_none))))))) wss_nil)))))
      (wss_wipe [5, 9, 10] (wss_one (ws_ret we_bl))))))))))))) ?hs
  case hc => walk_at "cst"
  case hs =>
    intro ts Q hl h
    obtain ⟨script, R, rfl, i, h⟩ := h
    refine rw_pure (ρ := [some (T.fr (D.scr script)), none, none, none, none, none, none, none, none, none, none]) (e := fun r => D.bl r) (rw_end (rw_assoc (rw_seq (ρ1 := (fun (left : Unit) => [some (T.fr (D.scr script)), some (T.fr D.rng), none, none, none, none, none, none, none, none, none])) (sw_setR (ew_fn (e := (fun _ : Unit => D.rng)) (ν := fun (q1 : Unit) => m__law_left script (0 : Int)) (τs := fun (q1 : Unit) => [(T.fr (D.scr script)), (T.fr (D.int (0 : Int)))]) (ts' := fun (q1 : Unit) => [(T.fr (D.scr script)), (T.fr (D.int (0 : Int)))]) (ews_p0 (eps_cons (ep_var (i := 0) rfl) (eps_cons ep_c eps_nil))) (fun _ => rfl) (fun _ => rfl) (fun q1 P Q i h => ⟨script, (0 : Int), Q, rfl, i, h⟩)) (fun _ => rfl)) fun left => (rw_assoc (rw_seq (ρ1 := (fun (h_ : (List Tx × List Tx × List (Tx × Tx × Int × Int) × Tx)) => [some (T.fr (D.scr script)), some (T.fr D.rng), some (T.fr (eH67 h_)), none, none, none, none, none, none, none, none])) (sw_set (e := eH67) (ew_fn (e := eH67) (ν := fun (q3 : Unit) => m__law_plant ) (τs := fun (q3 : Unit) => [(T.fr D.rng)]) (ts' := fun (q3 : Unit) => [(T.fr D.rng)]) (ews_p0 (eps_cons (ep_var (i := 1) rfl) eps_nil)) (fun _ => rfl) (fun _ => rfl) (fun q3 P Q i h => ⟨Q, rfl, i, h⟩)) (fun _ => rfl)) fun h_ => (rw_assoc (rw_let (ρ1 := (fun (q5 : (PlD × Int)) => [some (T.fr (D.scr script)), some (T.fr D.rng), some (T.fr (eH67 h_)), none, none, none, some (T.fr ((plD C) q5.1)), some (T.fr (D.int q5.2)), none, none, none])) ((f_read_plant h_.2.2.2), (h_.1.length : Int)) (sn_par (eps_cons (ep_fn (ts' := [(T.fr (D.str h_.2.2.2))]) (d := (plD C) (f_read_plant h_.2.2.2)) (oo := [ok_read_plant h_.2.2.2]) (eps_cons (ep2 (ep_var (i := 2) rfl) ep_c o_H67_text) eps_nil) rfl rfl (fun P o p => ⟨h_.2.2.2, rfl, o.1, p⟩)) (eps_cons (epn (eps_cons (ep2 (ep_var (i := 2) rfl) ep_c o_H67_gates) eps_nil) (o_len il_L.is)) eps_nil)) rfl) fun q5 => (rw_assoc (rw_seq (ρ1 := (fun (size : Int) => [some (T.fr (D.scr script)), some (T.fr D.rng), some (T.fr (eH67 h_)), some (T.fr (D.int size)), none, none, some (T.fr ((plD C) q5.1)), some (T.fr (D.int q5.2)), none, none, none])) (sw_set (e := D.int) (ew_if (τ := (fr D.int)) (ebw_val (ew2_0 (τa := (fr D.int)) (τb := (fr D.int)) (τc := fr D.bl) (f := (fun (a8 : Int) (b9 : Int) => (decide (a8 = b9)))) (ew_fn (e := D.int) (ν := fun (q6 : Unit) => m__law_pick (2 : Int)) (τs := fun (q6 : Unit) => [(T.fr D.rng), (T.fr (D.int (2 : Int)))]) (ts' := fun (q6 : Unit) => [(T.fr D.rng), (T.fr (D.int (2 : Int)))]) (ews_p0 (eps_cons (ep_var (i := 1) rfl) (eps_cons ep_c eps_nil))) (fun _ => rfl) (fun _ => rfl) (fun q6 P Q i h => ⟨(2 : Int), Q, rfl, i, h⟩)) (ew_p0 (τ := (fr D.int)) (a := (0 : Int)) ep_c) (fun a8 b9 => (o_eq eq_int a8 b9)))) (ew2_0 (τa := (fr D.int)) (τb := (fr D.int)) (τc := (fr D.int)) (f := (fun (a12 : Int) (b13 : Int) => (a12 + b13))) (ew_p0 (τ := (fr D.int)) (a := (150 : Int)) ep_c) (ew_fn (e := D.int) (ν := fun (q10 : Unit) => m__law_pick (51 : Int)) (τs := fun (q10 : Unit) => [(T.fr D.rng), (T.fr (D.int (51 : Int)))]) (ts' := fun (q10 : Unit) => [(T.fr D.rng), (T.fr (D.int (51 : Int)))]) (ews_p0 (eps_cons (ep_var (i := 1) rfl) (eps_cons ep_c eps_nil))) (fun _ => rfl) (fun _ => rfl) (fun q10 P Q i h => ⟨(51 : Int), Q, rfl, i, h⟩)) (fun a12 b13 => o_add)) (ew_fn (e := D.int) (ν := fun (q14 : Unit) => m__law_pick (41 : Int)) (τs := fun (q14 : Unit) => [(T.fr D.rng), (T.fr (D.int (41 : Int)))]) (ts' := fun (q14 : Unit) => [(T.fr D.rng), (T.fr (D.int (41 : Int)))]) (ews_p0 (eps_cons (ep_var (i := 1) rfl) (eps_cons ep_c eps_nil))) (fun _ => rfl) (fun _ => rfl) (fun q14 P Q i h => ⟨(41 : Int), Q, rfl, i, h⟩))) (fun _ => rfl)) fun size => (rw_assoc (rw_seqP (ρ1 := (fun (r : (Int × Unit) × (List (Int × Tx × Tx × Tx))) => [some (T.fr (D.scr script)), some (T.fr D.rng), some (T.fr (eH67 h_)), some (T.fr (D.int size)), some (tF true (eT4 D.int D.str D.str D.str) r.2), none, some (T.fr ((plD C) q5.1)), some (T.fr (D.int q5.2)), none, none, none])) (ρb := fun (day : (List (Int × Tx × Tx × Tx))) => [some (T.fr (D.scr script)), some (T.fr D.rng), some (T.fr (eH67 h_)), some (T.fr (D.int size)), some (tF true (eT4 D.int D.str D.str D.str) day), none, some (T.fr ((plD C) q5.1)), some (T.fr (D.int q5.2)), none, none, none]) (sw_callM (ν := fun (q27 : (Int × Unit)) => m__law_day script h_ size q27.1) (f := fun (q27 : (Int × Unit)) => [some (T.fr (D.scr script)), some (T.fr (eH67 h_)), some (T.fr (D.int size)), some (T.fr (D.int q27.1))]) (tv := fun (q27 : (Int × Unit)) => [(T.fr (D.scr script)), (T.fr (eH67 h_)), (T.fr (D.int size)), (T.fr (D.int q27.1))]) (rv := fun _ _ => [none, none, none, none]) (vv := fun _ b => (tF true (eT4 D.int D.str D.str D.str) b)) (ρ1 := (fun (r : (Int × Unit) × (List (Int × Tx × Tx × Tx))) => [some (T.fr (D.scr script)), some (T.fr D.rng), some (T.fr (eH67 h_)), some (T.fr (D.int size)), some (tF true (eT4 D.int D.str D.str D.str) r.2), none, some (T.fr ((plD C) q5.1)), some (T.fr (D.int q5.2)), none, none, none])) (ρ2 := fun _ _ => [some (T.fr (D.scr script)), some (T.fr D.rng), some (T.fr (eH67 h_)), some (T.fr (D.int size)), none, none, some (T.fr ((plD C) q5.1)), some (T.fr (D.int q5.2)), none, none, none]) trivial (eaw_valP0 (ep_var (i := 0) rfl) (eaw_valP0 (ep_var (i := 2) rfl) (eaw_valP0 (ep_var (i := 3) rfl) (eaw_val (τ := (fr D.int)) (f := fun (_ : Int) (q : Unit) => []) (ew2 (τa := (fr (eL D.int))) (τb := fr D.int) (τc := (fr D.int)) (f := fun (a23 : (List Int)) (b24 : Int) => ((atI a23 b24).getD default)) (ew_lstE (τs := fun (q22 : (Int × Unit)) => [(T.fr (D.int (1 : Int))), (T.fr (D.int q5.2)), (T.fr (D.int q22.1))]) (e := (eL D.int)) (f := fun (q22 : (Int × Unit)) => [(1 : Int), q5.2, q22.1]) (ews_consP0 (ta := (T.fr (D.int (1 : Int)))) (τs := (fun (q : (Int × Unit)) => [(T.fr (D.int q5.2)), (T.fr (D.int q.1))])) ep_c (ews_consP0 (ta := (T.fr (D.int q5.2))) (τs := (fun (q : (Int × Unit)) => [(T.fr (D.int q.1))])) (ep_var (i := 7) rfl) (ews_cons (τ := (fr D.int)) (τs := (fun (_ : Int) (q : Unit) => [])) (ew2_0 (τa := (fr D.int)) (τb := (fr D.int)) (τc := (fr D.int)) (f := (fun (a19 : Int) (b20 : Int) => (a19 + b20))) (ew_p0 (τ := (fr D.int)) (a := (1 : Int)) ep_c) (ew_fn (e := D.int) (ν := fun (q17 : Unit) => m__law_pick q5.2) (τs := fun (q17 : Unit) => [(T.fr D.rng), (T.fr (D.int q5.2))]) (ts' := fun (q17 : Unit) => [(T.fr D.rng), (T.fr (D.int q5.2))]) (ews_p0 (eps_cons (ep_var (i := 1) rfl) (eps_cons (ep_var (i := 7) rfl) eps_nil))) (fun _ => rfl) (fun _ => rfl) (fun q17 P Q i h => ⟨q5.2, Q, rfl, i, h⟩)) (fun a19 b20 => o_add)) (fun _ => ews_nil)))) (fun _ => rfl) (fun _ => rfl)) (ew_fn (e := D.int) (ν := fun (q25 : Unit) => m__law_pick (3 : Int)) (τs := fun (q25 : Unit) => [(T.fr D.rng), (T.fr (D.int (3 : Int)))]) (ts' := fun (q25 : Unit) => [(T.fr D.rng), (T.fr (D.int (3 : Int)))]) (ews_p0 (eps_cons (ep_var (i := 1) rfl) (eps_cons ep_c eps_nil))) (fun _ => rfl) (fun _ => rfl) (fun q25 P Q i h => ⟨(3 : Int), Q, rfl, i, h⟩)) (fun _ b => o_ix il_L.is b)) (fun _ => (eaw_p0 eam_nil)))))) (fun _ => rfl) (fun _ => rfl) (fun q27 P R Q i h => ⟨script, h_, size, q27.1, Q, rfl, i, h⟩) (fun _ _ => rfl) (fun _ _ => rfl) (.inl rfl) (fun _ _ => rfl)) fun day => (rw_assoc (rw_wa (rw_join (vs := [8]) (R := (fun (s32 : (List (Int × Tx × Tx × Tx))) => [some (T.fr (D.scr script)), some (T.fr D.rng), some (T.fr (eH67 h_)), some (T.fr (D.int size)), some (tF true (eT4 D.int D.str D.str D.str) s32), none, some (T.fr ((plD C) q5.1)), some (T.fr (D.int q5.2)), none, none, none])) (rw_end (rw_if (ebw_and (ebw_val (ew2_0 (τa := (fr D.int)) (τb := (fr D.int)) (τc := fr D.bl) (f := (fun (a30 : Int) (b31 : Int) => (decide (a30 = b31)))) (ew_fn (e := D.int) (ν := fun (q28 : Unit) => m__law_pick (3 : Int)) (τs := fun (q28 : Unit) => [(T.fr D.rng), (T.fr (D.int (3 : Int)))]) (ts' := fun (q28 : Unit) => [(T.fr D.rng), (T.fr (D.int (3 : Int)))]) (ews_p0 (eps_cons (ep_var (i := 1) rfl) (eps_cons ep_c eps_nil))) (fun _ => rfl) (fun _ => rfl) (fun q28 P Q i h => ⟨(3 : Int), Q, rfl, i, h⟩)) (ew_p0 (τ := (fr D.int)) (a := (0 : Int)) ep_c) (fun a30 b31 => (o_eq eq_int a30 b31)))) (ebw_p0 (b := (!(decide (day = ([] : (List (Int × Tx × Tx × Tx))))))) (eb_val (ep2 (ep_var (i := 4) rfl) (ep_lstE (d := D.lst []) eps_nil rfl rfl) (o_neF (eq_T4 eq_int eq_str eq_str eq_str) true _ _))))) (rw_assoc (rw_seq (ρ1 := (fun (at_ : Int) => [some (T.fr (D.scr script)), some (T.fr D.rng), some (T.fr (eH67 h_)), some (T.fr (D.int size)), some (tF true (eT4 D.int D.str D.str D.str) day), none, some (T.fr ((plD C) q5.1)), some (T.fr (D.int q5.2)), some (T.fr (D.int at_)), none, none])) (sw_set (e := D.int) (ew_fn (e := D.int) (ν := fun (q33 : Unit) => m__law_pick size) (τs := fun (q33 : Unit) => [(T.fr D.rng), (T.fr (D.int size))]) (ts' := fun (q33 : Unit) => [(T.fr D.rng), (T.fr (D.int size))]) (ews_p0 (eps_cons (ep_var (i := 1) rfl) (eps_cons (ep_var (i := 3) rfl) eps_nil))) (fun _ => rfl) (fun _ => rfl) (fun q33 P Q i h => ⟨size, Q, rfl, i, h⟩)) (fun _ => rfl)) fun at_ => (rw_p (rg_let0 (ρ1 := (fun (day : (List (Int × Tx × Tx × Tx))) => [some (T.fr (D.scr script)), some (T.fr D.rng), some (T.fr (eH67 h_)), some (T.fr (D.int size)), some (tF true (eT4 D.int D.str D.str D.str) day), none, some (T.fr ((plD C) q5.1)), some (T.fr (D.int q5.2)), some (T.fr (D.int at_)), none, none])) (setI day at_ ((((atI day at_).getD default).1, ((atI day at_).getD default).2.1).1, (((atI day at_).getD default).1, ((atI day at_).getD default).2.1).2, (((atI h_.2.1 (-(1 : Int))).getD default), (tl ("p" : Str))).1, (((atI h_.2.1 (-(1 : Int))).getD default), (tl ("p" : Str))).2)) (sn_putF (e := (eT4 D.int D.str D.str D.str)) (v := ((((atI day at_).getD default).1, ((atI day at_).getD default).2.1).1, (((atI day at_).getD default).1, ((atI day at_).getD default).2.1).2, (((atI h_.2.1 (-(1 : Int))).getD default), (tl ("p" : Str))).1, (((atI h_.2.1 (-(1 : Int))).getD default), (tl ("p" : Str))).2)) (k := at_) (ep_mD (ep2 (ep_sl (t := (T.fr ((eT2 D.int D.str) (((atI day at_).getD default).1, ((atI day at_).getD default).2.1)))) (ep2 (ep_var (i := 4) rfl) (ep_var (i := 8) rfl) (o_ix il_O.is at_)) eo_no (eo_some ep_c) (s_TE (ds := [D.int (((atI day at_).getD default).1), D.str (((atI day at_).getD default).2.1), D.str (((atI day at_).getD default).2.2.1), D.str (((atI day at_).getD default).2.2.2)]) (lo := none) (hi := (some 2)) 4 rfl (by decide) rfl)) (ep_tupE (d := (eT2 D.str D.str) (((atI h_.2.1 (-(1 : Int))).getD default), (tl ("p" : Str)))) (eps_cons (ep2 (ep2 (ep_var (i := 2) rfl) ep_c o_H67_kinds) (ep1 ep_c o_neg) (o_ix il_L.is (-(1 : Int)))) (eps_cons ep_c eps_nil)) rfl rfl) (o_addT (t := (T.fr ((eT4 D.int D.str D.str D.str) ((((atI day at_).getD default).1, ((atI day at_).getD default).2.1).1, (((atI day at_).getD default).1, ((atI day at_).getD default).2.1).2, (((atI h_.2.1 (-(1 : Int))).getD default), (tl ("p" : Str))).1, (((atI h_.2.1 (-(1 : Int))).getD default), (tl ("p" : Str))).2)))) (by intro P q; exact ⟨by show (4 : Nat) ≤ sizeLine; rw [sizeLine_eq]; decide, q⟩)))) (epl_var rfl) (fun _ => foc_var (τ := (tF true (eT4 D.int D.str D.str D.str))) (v := day) (put := fun v => [some (T.fr (D.scr script)), some (T.fr D.rng), some (T.fr (eH67 h_)), some (T.fr (D.int size)), some (tF true (eT4 D.int D.str D.str D.str) v), none, some (T.fr ((plD C) q5.1)), some (T.fr (D.int q5.2)), some (T.fr (D.int at_)), none, none]) rfl (fun _ => rfl)) (ep_var (i := 8) rfl) rfl) fun day => (rg_nx (m := day) (fun E h => h _ rfl)))))) (rw_p0 (rg_skip (rg_nx (m := day) (fun E h => h _ rfl)))))) fun s32 => (rw_p (rg_fz (rg_freeze (e := (eT4 D.int D.str D.str D.str)) (xs := s32) (ρ1 := [some (T.fr (D.scr script)), some (T.fr D.rng), some (T.fr (eH67 h_)), some (T.fr (D.int size)), some (T.fr ((eL (eT4 D.int D.str D.str D.str)) s32)), none, some (T.fr ((plD C) q5.1)), some (T.fr (D.int q5.2)), none, none, none]) rfl rfl (rg_assoc (rg_wa (rg_forF (gF := (rtG (fun r => D.bl r))) (S := (List (Int × Tx × Tx × Tx))) (N := Bool) (vs := [5, 9, 10]) (R := (fun (s35 : (List (Int × Tx × Tx × Tx))) => [some (T.fr (D.scr script)), some (T.fr D.rng), some (T.fr (eH67 h_)), some (T.fr (D.int size)), some (T.fr ((eL (eT4 D.int D.str D.str D.str)) s35)), none, some (T.fr ((plD C) q5.1)), some (T.fr (D.int q5.2)), none, none, none])) (ρb := (fun (s35 : (List (Int × Tx × Tx × Tx))) (x36 : Int) => [some (T.fr (D.scr script)), some (T.fr D.rng), some (T.fr (eH67 h_)), some (T.fr (D.int size)), some (T.fr ((eL (eT4 D.int D.str D.str D.str)) s35)), some (T.fr (D.int x36)), some (T.fr ((plD C) q5.1)), some (T.fr (D.int q5.2)), none, none, none])) (inj := fun r38 => r38) s32 (ei_rng1 (eps_cons ep_c eps_nil)) rfl (fun _ _ => rfl) (fun s35 x36 => (rg_end (rg_assoc (rg_let (ρ1 := (fun (q37 : ((List (Int × Tx × Tx × Tx)) × (Option Int))) => [some (T.fr (D.scr script)), some (T.fr D.rng), some (T.fr (eH67 h_)), some (T.fr (D.int size)), some (T.fr ((eL (eT4 D.int D.str D.str D.str)) s35)), some (T.fr (D.int x36)), some (T.fr ((plD C) q5.1)), some (T.fr (D.int q5.2)), none, some (T.fr ((eL (eT4 D.int D.str D.str D.str)) q37.1)), some (T.fr ((eO D.int) q37.2))])) (s35, (f__law_due h_ s35)) (sn_par (eps_cons (epn (eps_cons (ep_var (i := 4) rfl) eps_nil) (o_list il_L.is)) (eps_cons (ep_fn (ts' := [(T.fr (eH67 h_)), (T.fr ((eL (eT4 D.int D.str D.str D.str)) s35))]) (d := (eO D.int) (f__law_due h_ s35)) (oo := [ok__law_due h_ s35]) (eps_cons (ep_var (i := 2) rfl) (eps_cons (ep_var (i := 4) rfl) eps_nil)) rfl rfl (fun P o p => ⟨h_, s35, rfl, o.1, p⟩)) eps_nil)) rfl) fun q37 => (rg_assoc (rg_if (c := ((!(f__law_same (f_pace_fault q5.1 q37.1) q37.2)) || (!(decide (q37.1 = s35))))) (eb_or (eb_not (eb_val (ep_fn (ts' := [(T.fr ((eO D.int) (f_pace_fault q5.1 q37.1))), (T.fr ((eO D.int) q37.2))]) (d := D.bl (f__law_same (f_pace_fault q5.1 q37.1) q37.2)) (oo := [ok__law_same (f_pace_fault q5.1 q37.1) q37.2]) (eps_cons (ep_fn (ts' := [(T.fr ((plD C) q5.1)), (T.fr ((eL (eT4 D.int D.str D.str D.str)) q37.1))]) (d := (eO D.int) (f_pace_fault q5.1 q37.1)) (oo := [ok_pace_fault q5.1 q37.1]) (eps_cons (ep_var (i := 6) rfl) (eps_cons (ep_var (i := 9) rfl) eps_nil)) rfl rfl (fun P o p => ⟨q5.1, q37.1, rfl, o.1, p⟩)) (eps_cons (ep_var (i := 10) rfl) eps_nil)) rfl rfl (fun P o p => ⟨(f_pace_fault q5.1 q37.1), q37.2, rfl, o.1, p⟩)))) (eb_val (ep2 (ep_var (i := 9) rfl) (ep_var (i := 4) rfl) (o_ne (eq_L (eq_T4 eq_int eq_str eq_str eq_str)) q37.1 s35)))) (rg_ret (m := (Step.rt false : Step (List (Int × Tx × Tx × Tx)) Bool)) (t := (T.fr (D.bl false))) ep_c (fun _ h => h _)) (rg_skip (rg_if (c := q37.2.isSome) (eb_val (ep2 (ep_var (i := 10) rfl) ep_c (o_notN nn_int _))) (rg_let0 (ρ1 := (fun (day : (List (Int × Tx × Tx × Tx))) => [some (T.fr (D.scr script)), some (T.fr D.rng), some (T.fr (eH67 h_)), some (T.fr (D.int size)), some (T.fr ((eL (eT4 D.int D.str D.str D.str)) day)), some (T.fr (D.int x36)), some (T.fr ((plD C) q5.1)), some (T.fr (D.int q5.2)), none, some (T.fr ((eL (eT4 D.int D.str D.str D.str)) q37.1)), some (T.fr ((eO D.int) q37.2))])) ((cut s35 none (some (unO q37.2))) ++ (cut s35 (some ((unO q37.2) + (1 : Int))) none)) (sn_mk (t := (T.fr ((eL (eT4 D.int D.str D.str D.str)) ((cut s35 none (some (unO q37.2))) ++ (cut s35 (some ((unO q37.2) + (1 : Int))) none))))) (ep_mD (ep2 (ep_sl (ep_var (i := 4) rfl) eo_no (eo_some (ep_unO (ep_var (i := 10) rfl))) s_L) (ep_sl (ep_var (i := 4) rfl) (eo_some (ep2 (ep_unO (ep_var (i := 10) rfl)) ep_c o_add)) eo_no s_L) o_addL)) rfl rfl rfl) fun day => (rg_nx (m := (Step.nx day : Step (List (Int × Tx × Tx × Tx)) Bool)) (fun E h => h _ rfl))) (rg_skip (rg_nx (m := (Step.nx s35 : Step (List (Int × Tx × Tx × Tx)) Bool)) (fun E h => h _ rfl))))))))))) (fun s35 => (rg_ret (m := true) (t := (T.fr (D.bl true))) ep_c (fun _ h => h _))) (fun _ _ _ _ _ g => g))))))))))))))))))))) i ?_
    exact h
end K67
set_option Elab.async false
set_option linter.all false
set_option maxRecDepth 100000
set_option maxHeartbeats 1000000
namespace K67
open PySem PySem.Spec PyProof.Rows L2 TL
/-! plain: names that are drawn -/
theorem sizeL : sizeLine = 16777216 := by rw [sizeLine_eq]
theorem pick_of {n : Int} {P : Int → Prop} (h0 : 0 < n) (h1 : n < 1073741824) (h : ∀ d, 0 ≤ d → d < n → P d) : m__law_pick n P := ⟨⟨h0, h1⟩, h⟩
theorem atI_range {α : Type} (xs : List α) (d : Int) (h0 : 0 ≤ d) (h1 : d < (xs.length : Int)) : ∃ x, atI xs d = some x ∧ x ∈ xs := by
  unfold atI ixN
  rw [if_pos h0, if_pos h1]
  have : d.toNat < xs.length := by omega
  refine ⟨xs[d.toNat], ?_, List.getElem_mem this⟩
  show xs[d.toNat]? = _
  exact List.getElem?_eq_getElem this
theorem mapW_all {α β : Type} {μ : α → WPt β} (R : β → Prop) (up : ∀ x (P : β → Prop), (∀ y, R y → P y) → μ x P) : ∀ (xs : List α) (P : List β → Prop), (∀ ys : List β, ys.length = xs.length → (∀ y ∈ ys, R y) → P ys) → mapW μ xs P
  | [], P, k => k [] rfl fun _ z => nomatch z
  | x :: xs, P, k => up x _ fun y hy => mapW_all R up xs _ fun ys hl hys => k (y :: ys) (by simp [hl]) fun z hz => by
    rcases List.mem_cons.mp hz with rfl | hz
    · exact hy
    · exact hys z hz
def abcC : Tx := tl ("abcdefghijklmnopqrstuvwxyz" : Str)
theorem abc_len : abcC.length = 26 := by decide +kernel
theorem abc_nodup : abcC.Nodup := by decide +kernel
def NameOk (n : Tx) : Prop := 1 ≤ n.length ∧ n.length ≤ 8 ∧ ∀ c ∈ n, c ∈ abcC
def wordsL : List Tx := splitC 32 (tl ("to by from desk line gate kind time open pace eldest rank meet turns" : Str))
theorem words_len : wordsL.length = 14 := by decide +kernel
theorem words_ok : ∀ w ∈ wordsL, NameOk w := by
  have : wordsL.all (fun w => decide (1 ≤ w.length) && (decide (w.length ≤ 8) && w.all fun c => decide (c ∈ abcC))) = true := by decide +kernel
  intro w hw
  have := List.all_eq_true.mp this w hw
  simp only [Bool.and_eq_true, decide_eq_true_eq, List.all_eq_true] at this
  exact ⟨this.1, this.2.1, this.2.2⟩
theorem joinL_flat : ∀ ys : List Tx, joinL [] ys = ys.flatten
  | [] => rfl
  | [y] => by simp [joinL]
  | y :: z :: ys => by
    have := joinL_flat (z :: ys)
    simp only [joinL] at this ⊢
    simp [this]
theorem len_flat1 : ∀ ys : List Tx, (∀ y ∈ ys, ∃ c ∈ abcC, y = [c]) → ys.flatten.length = ys.length ∧ (ys.map (·.length)).sum = ys.length ∧ ∀ c ∈ ys.flatten, c ∈ abcC
  | [], _ => ⟨rfl, rfl, fun _ z => nomatch z⟩
  | y :: ys, h => by
    obtain ⟨a, b, c⟩ := len_flat1 ys fun z hz => h z (List.mem_cons_of_mem _ hz)
    obtain ⟨x, hx, rfl⟩ := h y (List.mem_cons_self ..)
    refine ⟨by simp only [List.flatten_cons, List.length_append, List.length_cons, List.length_nil, a]; omega, by simp only [List.map_cons, List.sum_cons, List.length_cons, List.length_nil, b]; omega, fun z hz => ?_⟩
    simp only [List.flatten_cons, List.mem_append, List.mem_singleton] at hz
    rcases hz with rfl | hz
    · exact hx
    · exact c z hz
theorem nodup_sub : ∀ (xs ys : List Tx), xs.Nodup → (∀ x ∈ xs, x ∈ ys) → xs.length ≤ ys.length
  | [], ys, _, _ => Nat.zero_le _
  | x :: xs, ys, hn, hs => by
    have hx := hs x (List.mem_cons_self ..)
    rw [List.nodup_cons] at hn
    have := nodup_sub xs (ys.erase x) hn.2 fun z hz => (List.mem_erase_of_ne (fun e => by subst e; exact hn.1 hz)).mpr (hs z (List.mem_cons_of_mem _ hz))
    rw [List.length_erase_of_mem hx] at this
    have : 0 < ys.length := List.length_pos_of_mem hx
    simp only [List.length_cons]; omega
theorem cut_to {α : Type} (xs : List α) (k : Nat) : cut xs none (some (k : Int)) = xs.take k := by
  unfold cut
  rw [HT.sIx_none, HT.sIx_nat, List.drop_zero, Nat.sub_zero]
  by_cases h : k ≤ xs.length
  · rw [Nat.min_eq_left h]
  · rw [Nat.min_eq_right (by omega), List.take_of_length_le (Nat.le_refl _), List.take_of_length_le (by omega)]
theorem name_cand (s : Tx) (hs : NameOk s) (c : Nat) (hc : c ∈ abcC) : NameOk (s.take 7 ++ [c]) := by
  refine ⟨by simp, by simp; omega, fun z hz => ?_⟩
  rcases List.mem_append.mp hz with hz | hz
  · exact hs.2.2 z (List.mem_of_mem_take hz)
  · rw [List.mem_singleton.mp hz]; exact hc
theorem spelt_of (told : List Tx) (ht : told.length < 26) (P : Tx → Prop) (h : ∀ n, NameOk n → n ∉ told → P n) : m__law_spelt told P := by
  unfold m__law_spelt
  have fin : ∀ s9 : Tx, NameOk s9 → All [∀ x17 ∈ abcC, All [(cut s9 none (some (7 : Int))).length + [x17].length ≤ sizeLine],
  [s9].length + (abcC.map fun (x17 : Nat) => ((cut s9 none (some (7 : Int))) ++ [x17])).length ≤ sizeLine,
  (let some_ : (List Tx) := ([s9] ++ (abcC.map fun (x17 : Nat) => ((cut s9 none (some (7 : Int))) ++ [x17])))
  All [(atI ((some_.filter fun (x18 : Tx) => (!(memB x18 told))).map fun (x18 : Tx) => x18) (0 : Int)).isSome = true])] ∧ P (let some_ : (List Tx) := ([s9] ++ (abcC.map fun (x17 : Nat) => ((cut s9 none (some (7 : Int))) ++ [x17])))
  ((atI ((some_.filter fun (x18 : Tx) => (!(memB x18 told))).map fun (x18 : Tx) => x18) (0 : Int)).getD default)) := by
    intro s9 hs
    have e7 : cut s9 none (some (7 : Int)) = s9.take 7 := cut_to s9 7
    rw [e7]
    have hl : (s9.take 7).length ≤ 7 := by rw [List.length_take]; omega
    have key : ∃ x, atI ((([s9] ++ abcC.map fun x17 => s9.take 7 ++ [x17]).filter fun x18 => !(memB x18 told)).map fun x18 => x18) 0 = some x ∧ NameOk x ∧ x ∉ told := by
      rw [List.map_id']
      cases hf : ([s9] ++ abcC.map fun x17 => s9.take 7 ++ [x17]).filter fun x18 => !(memB x18 told) with
      | nil =>
        exfalso
        have all : ∀ x ∈ abcC.map (fun x17 => s9.take 7 ++ [x17]), x ∈ told := by
          intro x hx
          have := List.filter_eq_nil_iff.mp hf x (List.mem_append_right _ hx)
          simpa [memB] using this
        have nd : (abcC.map fun x17 => s9.take 7 ++ [x17]).Nodup := by
          have gen : ∀ l : List Nat, l.Nodup → (l.map fun x17 => s9.take 7 ++ [x17]).Nodup := by
            intro l
            induction l with
            | nil => intro _; exact List.nodup_nil
            | cons a l ih =>
              intro hn
              rw [List.nodup_cons] at hn
              rw [List.map_cons, List.nodup_cons]
              refine ⟨fun z => ?_, ih hn.2⟩
              obtain ⟨b, hb, e⟩ := List.mem_map.mp z
              have : b = a := by simpa using e
              exact hn.1 (this ▸ hb)
          exact gen _ abc_nodup
        have := nodup_sub _ told nd all
        rw [List.length_map, abc_len] at this
        omega
      | cons x xs =>
        refine ⟨x, atI_0 x xs, ?_⟩
        have hm : x ∈ ([s9] ++ abcC.map fun x17 => s9.take 7 ++ [x17]).filter fun x18 => !(memB x18 told) := by rw [hf]; exact List.mem_cons_self ..
        obtain ⟨h1, h2⟩ := List.mem_filter.mp hm
        refine ⟨?_, by simpa [memB] using h2⟩
        rcases List.mem_append.mp h1 with h1 | h1
        · rw [List.mem_singleton.mp h1]; exact hs
        · obtain ⟨c, hc, rfl⟩ := List.mem_map.mp h1
          exact name_cand s9 hs c hc
    obtain ⟨x, hx, h1, h2⟩ := key
    refine ⟨⟨fun c _ => ⟨by rw [sizeL]; simp only [List.length_cons, List.length_nil]; omega, trivial⟩, by rw [sizeL, List.length_map, abc_len]; simp only [List.length_cons, List.length_nil]; omega, ⟨by rw [hx]; rfl, trivial⟩, trivial⟩, ?_⟩
    show P ((atI (((([s9] ++ abcC.map fun x17 => s9.take 7 ++ [x17]).filter fun x18 => !(memB x18 told)).map fun x18 => x18)) 0).getD default)
    rw [hx]
    exact h x h1 h2
  refine ⟨⟨by rw [sizeL]; decide +kernel, trivial⟩, ?_⟩
  refine pick_of (by decide) (by decide) fun d2 a0 a1 => ?_
  refine pick_of (by decide) (by decide) fun d8 b0 b1 => ?_
  obtain ⟨w, hw, hm⟩ := atI_range wordsL d8 b0 (by rw [words_len]; exact b1)
  refine ⟨⟨by show (atI wordsL d8).isSome = true; rw [hw]; rfl, trivial⟩, ?_⟩
  show if decide ((1 : Int) + d2 < 9) = true then _ else _
  by_cases hc : (1 : Int) + d2 < 9
  · rw [if_pos (decide_eq_true hc)]
    have hu : (upI 0 ((1 : Int) + d2).toNat).length = ((1 : Int) + d2).toNat := by unfold upI; rw [List.length_map, List.length_range]
    refine ⟨⟨⟨by omega, by omega⟩, trivial⟩, ⟨by rw [hu, sizeL]; omega, trivial⟩, ?_⟩
    refine mapW_all (fun y => ∃ c ∈ abcC, y = [c]) (fun x Q hq => ?_) _ _ fun ys hl hys => ?_
    · refine pick_of (by decide) (by decide) fun d c0 c1 => ?_
      obtain ⟨c, hc, hcm⟩ := atI_range abcC d c0 (by rw [abc_len]; exact c1)
      refine ⟨⟨by show (atI abcC d).isSome = true; rw [hc]; rfl, trivial⟩, ?_⟩
      show Q [(atI abcC d).getD default]
      rw [hc]
      exact hq _ ⟨c, hcm, rfl⟩
    · obtain ⟨f1, f2, f3⟩ := len_flat1 ys hys
      rw [hu] at hl
      refine ⟨⟨by rw [f2, k_empty]; show ys.length + ys.length * 0 ≤ _; omega, trivial⟩, ?_⟩
      show All _ ∧ P _
      refine fin _ ?_
      rw [k_empty, joinL_flat]
      exact ⟨by omega, by omega, f3⟩
  · rw [if_neg (by simpa using hc)]
    show All _ ∧ P _
    refine fin _ ?_
    show NameOk ((atI wordsL d8).getD default)
    rw [hw]
    exact words_ok w hm
theorem spelt_all_of (many : Int) (h0 : 0 ≤ many) (h1 : many ≤ 20) (P : List Tx → Prop) (h : ∀ ns : List Tx, ns.length = many.toNat → ns.Nodup → (∀ n ∈ ns, NameOk n) → P ns) : m__law_spelt_all many P := by
  unfold m__law_spelt_all
  refine ⟨⟨⟨by omega, by omega⟩, trivial⟩, ?_⟩
  have gen : ∀ (xs : List Int) (ns : List Tx), ns.length + xs.length ≤ 20 → ns.Nodup → (∀ n ∈ ns, NameOk n) → (∀ ms : List Tx, ms.length = ns.length + xs.length → ms.Nodup → (∀ n ∈ ms, NameOk n) → P ms) → loopWN m__law_spelt_all_st1 xs ns fun s1 => P s1 := by
    intro xs
    induction xs with
    | nil => intro ns hl hn ho hp; exact hp ns (by simp) hn ho
    | cons x xs ih =>
      intro ns hl hn ho hp
      simp only [List.length_cons] at hl
      show m__law_spelt ns (fun d4 => ns.length < sizeLine ∧ loopWN m__law_spelt_all_st1 xs (ns ++ [d4]) fun s1 => P s1)
      refine spelt_of ns (by omega) _ fun n hno hnt => ⟨by rw [sizeL]; omega, ?_⟩
      refine ih (ns ++ [n]) (by simp; omega) ?_ ?_ ?_
      · rw [List.nodup_append]
        refine ⟨hn, by simp, fun a ha b hb => ?_⟩
        rw [List.mem_singleton.mp hb]
        intro e; subst e; exact hnt ha
      · intro m hm
        rcases List.mem_append.mp hm with hm | hm
        · exact ho m hm
        · rw [List.mem_singleton.mp hm]; exact hno
      · intro ms hms
        refine hp ms ?_
        simp only [List.length_append, List.length_cons, List.length_nil] at hms ⊢
        omega
  have hu : (upI 0 many.toNat).length = many.toNat := by unfold upI; rw [List.length_map, List.length_range]
  refine gen (upI 0 many.toNat) [] (by rw [hu]; simp; omega) List.nodup_nil (fun _ z => nomatch z) fun ms hms => h ms ?_
  rw [hu] at hms
  simpa using hms
end K67
set_option Elab.async false
set_option linter.all false
set_option maxRecDepth 100000
set_option maxHeartbeats 1000000
namespace K67
open PySem PySem.Spec PyProof.Rows L2 TL
/-! plain: the plant's text is read -/
def numB (n : Int) : Bool := decide ((strI n).length ≤ 2) && (!(strI n).isEmpty && ((strI n).all (fun c => decide (48 ≤ c) && decide (c ≤ 57)) && decide (positiveIn (strI n) = some n)))
theorem num_facts : ((List.range 60).all fun i => numB ((i + 1 : Nat) : Int)) = true := by decide +kernel
theorem num_fact (n : Int) (h0 : 1 ≤ n) (h1 : n ≤ 60) : (strI n).length ≤ 2 ∧ strI n ≠ [] ∧ (∀ c ∈ strI n, 48 ≤ c ∧ c ≤ 57) ∧ positiveIn (strI n) = some n := by
  have := List.all_eq_true.mp num_facts (n - 1).toNat (List.mem_range.mpr (by omega))
  have e : (((n - 1).toNat + 1 : Nat) : Int) = n := by omega
  rw [e] at this
  unfold numB at this
  simp only [Bool.and_eq_true, decide_eq_true_eq, List.all_eq_true, Bool.not_eq_true', List.isEmpty_eq_false_iff] at this
  exact this
theorem strOk_of (n : Int) (h0 : 1 ≤ n) (h1 : n ≤ 60) : StrOk n := by
  obtain ⟨a, b, c, d⟩ := num_fact n h0 h1
  refine ⟨?_, by rw [sizeL]; omega, fun x hx => by have := c x hx; omega⟩
  have : n.natAbs.log2 ≤ n.natAbs := Nat.log2_le_self _
  omega
structure PV (gates kinds : List Tx) (ps : List (Tx × Tx × Int × Int)) : Prop where
  gl : 1 ≤ gates.length ∧ gates.length ≤ 11
  gn : gates.Nodup
  go : ∀ g ∈ gates, NameOk g
  kl : 1 ≤ kinds.length ∧ kinds.length ≤ 2
  kn : kinds.Nodup
  ko : ∀ g ∈ kinds, NameOk g
  pn : (ps.map (·.1)).Nodup
  po : ∀ q ∈ ps, q.1 ∈ gates ∧ q.2.1 ∈ kinds ∧ (1 ≤ q.2.2.1 ∧ q.2.2.1 ≤ 60) ∧ 1 ≤ q.2.2.2 ∧ q.2.2.2 ≤ 60
def rowK (k : Tx) : Tx := ((tl ("kind " : Str)) ++ k) ++ (tl (" -" : Str))
def rowG (k : Tx) : Tx := (tl ("gate " : Str)) ++ k
def rowP (x52 : Tx × Tx × Int × Int) : Tx := joinL (tl (" " : Str)) [(tl ("pace" : Str)), x52.1, x52.2.1, (strI x52.2.2.1), (strI x52.2.2.2)]
def rowsOf (gates kinds : List Tx) (ps : List (Tx × Tx × Int × Int)) : List Tx := (kinds.map rowK ++ gates.map rowG) ++ ps.map rowP
theorem sum_le (B : Nat) : ∀ l : List Tx, (∀ y ∈ l, y.length ≤ B) → (l.map (·.length)).sum ≤ l.length * B
  | [], _ => Nat.zero_le _
  | y :: l, h => by
    have h1 := sum_le B l fun z hz => h z (List.mem_cons_of_mem _ hz)
    have h2 := h y (List.mem_cons_self ..)
    simp only [List.map_cons, List.sum_cons, List.length_cons]
    rw [Nat.succ_mul]; omega
theorem len_kind : (tl ("kind " : Str)).length = 5 := by decide +kernel
theorem len_gate : (tl ("gate " : Str)).length = 5 := by decide +kernel
theorem len_dash : (tl (" -" : Str)).length = 2 := by decide +kernel
theorem len_pace : (tl ("pace" : Str)).length = 4 := by decide +kernel
theorem len_sp : (tl (" " : Str)).length = 1 := by decide +kernel
theorem len_nl : (tl ("\n" : Str)).length = 1 := by decide +kernel
theorem rowK_len (k : Tx) (h : NameOk k) : (rowK k).length ≤ 60 := by
  unfold rowK; rw [List.length_append, List.length_append, len_kind, len_dash]; have := h.2.1; omega
theorem rowG_len (k : Tx) (h : NameOk k) : (rowG k).length ≤ 60 := by
  unfold rowG; rw [List.length_append, len_gate]; have := h.2.1; omega
section
variable {gates kinds : List Tx} {ps : List (Tx × Tx × Int × Int)}
theorem PV.pl (V : PV gates kinds ps) : ps.length ≤ 11 := by
  have := nodup_sub (ps.map (·.1)) gates V.pn fun x hx => by
    obtain ⟨q, hq, rfl⟩ := List.mem_map.mp hx
    exact (V.po q hq).1
  rw [List.length_map] at this
  have := V.gl.2; omega
theorem PV.parts (V : PV gates kinds ps) (x : Tx × Tx × Int × Int) (hx : x ∈ ps) : ([(tl ("pace" : Str)), x.1, x.2.1, (strI x.2.2.1), (strI x.2.2.2)].map (·.length)).sum ≤ 30 := by
  obtain ⟨a, b, ⟨c1, c2⟩, d1, d2⟩ := V.po x hx
  have h1 := (V.go _ a).2.1
  have h2 := (V.ko _ b).2.1
  have h3 := (num_fact _ c1 c2).1
  have h4 := (num_fact _ d1 d2).1
  simp only [List.map_cons, List.map_nil, List.sum_cons, List.sum_nil, len_pace]
  omega
theorem PV.rowP_len (V : PV gates kinds ps) (x : Tx × Tx × Int × Int) (hx : x ∈ ps) : (rowP x).length ≤ 60 := by
  have h1 := joinL_len (tl (" " : Str)) [(tl ("pace" : Str)), x.1, x.2.1, (strI x.2.2.1), (strI x.2.2.2)]
  have h2 := V.parts x hx
  rw [len_sp] at h1
  unfold rowP
  simp only [List.length_cons, List.length_nil] at h1
  omega
theorem PV.rows_len (V : PV gates kinds ps) : ∀ y ∈ rowsOf gates kinds ps, y.length ≤ 60 := by
  intro y hy
  unfold rowsOf at hy
  rcases List.mem_append.mp hy with hy | hy
  · rcases List.mem_append.mp hy with hy | hy
    · obtain ⟨k, hk, rfl⟩ := List.mem_map.mp hy
      exact rowK_len k (V.ko k hk)
    · obtain ⟨k, hk, rfl⟩ := List.mem_map.mp hy
      exact rowG_len k (V.go k hk)
  · obtain ⟨k, hk, rfl⟩ := List.mem_map.mp hy
    exact V.rowP_len k hk
theorem PV.rows_many (V : PV gates kinds ps) : (rowsOf gates kinds ps).length ≤ 24 := by
  unfold rowsOf
  simp only [List.length_append, List.length_map]
  have := V.pl; have := V.gl.2; have := V.kl.2; omega
theorem plant_of (P : (List Tx × List Tx × List (Tx × Tx × Int × Int) × Tx) → Prop) (h : ∀ gates kinds ps, PV gates kinds ps → P (gates, kinds, ps, joinL (tl ("\n" : Str)) (rowsOf gates kinds ps))) : m__law_plant P := by
  unfold m__law_plant
  refine pick_of (by decide) (by decide) fun d2 a0 a1 => ?_
  refine spelt_all_of _ (by omega) (by omega) _ fun gates gl gn go => ?_
  refine pick_of (by decide) (by decide) fun d12 b0 b1 => ?_
  refine spelt_all_of _ (by omega) (by omega) _ fun kinds kl kn ko => ?_
  have gen : ∀ (xs : List Tx) (ps : List (Tx × Tx × Int × Int)) (Q : List (Tx × Tx × Int × Int) → Prop), xs.Nodup → (∀ x ∈ xs, x ∈ gates) → ps.length + xs.length ≤ 11 → (∀ q ∈ ps, q.1 ∉ xs) → PV gates kinds ps → (∀ ps', PV gates kinds ps' → Q ps') → loopWN (m__law_plant_st1 (gates, (kinds, ())) []) xs ps Q := by
    intro xs
    induction xs with
    | nil => intro ps Q _ _ _ _ V hQ; exact hQ ps V
    | cons x xs ih =>
      intro ps Q hn hg hl hk V hQ
      rw [List.nodup_cons] at hn
      simp only [List.length_cons] at hl
      show m__law_plant_st1 (gates, (kinds, ())) [] ps x (fun s' => loopWN (m__law_plant_st1 (gates, (kinds, ())) []) xs s' Q)
      unfold m__law_plant_st1
      refine pick_of (by decide) (by decide) fun d29 c0 c1 => ?_
      obtain ⟨most, hm, hmm⟩ := atI_range [(4 : Int), (60 : Int)] d29 c0 c1
      refine ⟨⟨by rw [hm]; rfl, trivial⟩, ?_⟩
      rw [hm]
      have hmost : 4 ≤ most ∧ most ≤ 60 := by
        simp only [List.mem_cons, List.not_mem_nil, or_false] at hmm
        rcases hmm with rfl | rfl <;> omega
      show m__law_pick ((kinds.length : Nat) : Int) _
      refine pick_of (by have := V.kl.1; omega) (by have := V.kl.2; omega) fun d43 e0 e1 => ?_
      obtain ⟨kd, hkd, hkm⟩ := atI_range kinds d43 e0 e1
      refine ⟨⟨by show (atI kinds d43).isSome = true; rw [hkd]; rfl, trivial⟩, ?_⟩
      show m__law_pick most _
      refine pick_of (by omega) (by omega) fun d36 f0 f1 => ?_
      refine pick_of (by decide) (by decide) fun d31 g0 g1 => ?_
      refine pick_of (by decide) (by decide) fun d47 i0 i1 => ?_
      show if decide ((0 : Int) < d47) = true then _ else _
      by_cases hc : (0 : Int) < d47
      · rw [if_pos (decide_eq_true hc)]
        refine ⟨⟨by rw [sizeL]; omega, trivial⟩, ?_⟩
        show loopWN (m__law_plant_st1 (gates, (kinds, ())) []) xs (ps ++ [(x, ((atI kinds d43).getD default), ((1 : Int) + d36), ((1 : Int) + d31))]) Q
        rw [hkd]
        refine ih _ Q hn.2 (fun y hy => hg y (List.mem_cons_of_mem _ hy)) (by simp; omega) ?_ ?_ hQ
        · intro q hq
          rcases List.mem_append.mp hq with hq | hq
          · exact fun z => hk q hq (List.mem_cons_of_mem _ z)
          · rw [List.mem_singleton.mp hq]; exact hn.1
        · refine ⟨V.gl, V.gn, V.go, V.kl, V.kn, V.ko, ?_, ?_⟩
          · rw [List.map_append, List.nodup_append]
            refine ⟨V.pn, by simp, fun a ha b hb => ?_⟩
            obtain ⟨q, hq, rfl⟩ := List.mem_map.mp ha
            simp only [List.map_cons, List.map_nil, List.mem_singleton] at hb
            rw [hb]
            intro e
            exact hk q hq (e ▸ List.mem_cons_self ..)
          · intro q hq
            rcases List.mem_append.mp hq with hq | hq
            · exact V.po q hq
            · rw [List.mem_singleton.mp hq]
              exact ⟨hg x (List.mem_cons_self ..), hkm, ⟨by show 1 ≤ 1 + d36; omega, by show 1 + d36 ≤ 60; omega⟩, by show 1 ≤ 1 + d31; omega, by show 1 + d31 ≤ 60; omega⟩
      · rw [if_neg (by simpa using hc)]
        exact ih _ Q hn.2 (fun y hy => hg y (List.mem_cons_of_mem _ hy)) (by omega) (fun q hq z => hk q hq (List.mem_cons_of_mem _ z)) V hQ
  have V0 : PV gates kinds [] := ⟨⟨by omega, by omega⟩, gn, go, ⟨by omega, by omega⟩, kn, ko, List.nodup_nil, fun _ z => nomatch z⟩
  show loopWN (m__law_plant_st1 (gates, (kinds, ())) []) gates [] _
  refine gen gates [] _ gn (fun _ z => z) (by simp; omega) (fun _ z => nomatch z) V0 fun ps V => ?_
  have hp := V.pl
  have hr := V.rows_many
  have hl := V.rows_len
  have own_eq : (ps.map fun (x53 : (Tx × Tx × Int × Int)) => (x53.1, (x53.2.1, x53.2.2.1, x53.2.2.2))) = ps := by
    rw [show (fun (x53 : (Tx × Tx × Int × Int)) => (x53.1, (x53.2.1, x53.2.2.1, x53.2.2.2))) = id from rfl, List.map_id]
  refine ⟨⟨fun x hx => ?_, fun x hx => ?_, ?_, ⟨fun x hx => ?_, ?_, ⟨?_, ⟨?_, trivial⟩, trivial⟩, trivial⟩, trivial⟩, ?_⟩
  · have := (V.ko x hx).2.1
    refine ⟨by rw [sizeL, len_kind]; omega, by rw [sizeL, List.length_append, len_kind, len_dash]; omega, trivial⟩
  · have := (V.go x hx).2.1
    exact ⟨by rw [sizeL, len_gate]; omega, trivial⟩
  · rw [sizeL, List.length_map, List.length_map]
    have := V.kl.2; have := V.gl.2
    show kinds.length + gates.length ≤ _
    omega
  · obtain ⟨a, b, ⟨c1, c2⟩, d1, d2⟩ := V.po x hx
    have h2 := V.parts x hx
    refine ⟨strOk_of _ c1 c2, strOk_of _ d1 d2, ?_, trivial⟩
    rw [len_sp]
    simp only [List.length_cons, List.length_nil]
    omega
  · rw [sizeL]
    simp only [List.length_append, List.length_map]
    have := V.kl.2; have := V.gl.2
    show kinds.length + gates.length + ps.length ≤ _
    omega
  · rw [List.map_map]
    exact V.pn
  · show ((rowsOf gates kinds ps).map (·.length)).sum + (rowsOf gates kinds ps).length * (tl ("\n" : Str)).length ≤ 16777216
    have := sum_le 60 _ hl
    rw [len_nl]
    have : (rowsOf gates kinds ps).length * 60 ≤ 24 * 60 := Nat.mul_le_mul_right _ hr
    omega
  · show P (gates, kinds, (ps.map fun (x53 : (Tx × Tx × Int × Int)) => (x53.1, (x53.2.1, x53.2.2.1, x53.2.2.2))), joinL (tl ("\n" : Str)) (rowsOf gates kinds ps))
    rw [own_eq]
    exact h gates kinds ps V
end
end K67
set_option Elab.async false
set_option linter.all false
set_option maxRecDepth 100000
set_option maxHeartbeats 1000000
namespace K67
open PySem PySem.Spec PyProof.Rows L2 TL
/-! plain: the text is read to the plant -/
theorem abc_range : ∀ c ∈ abcC, 97 ≤ c ∧ c ≤ 122 := by
  have : abcC.all (fun c => decide (97 ≤ c) && decide (c ≤ 122)) = true := by decide +kernel
  intro c hc
  have := List.all_eq_true.mp this c hc
  simpa using this
theorem name_free (n : Tx) (h : NameOk n) (c : Nat) (hc : c < 97) : c ∉ n := fun z => by
  have := abc_range c (h.2.2 c z); omega
theorem name_ne (n : Tx) (h : NameOk n) : n ≠ [] := fun z => by subst z; have := h.1; simp at this
theorem isName_ok (n : Tx) (h : NameOk n) : isName n = true := by
  unfold isName
  have h1 := h.1
  have h2 := h.2.1
  have h3 : (n.all fun c => decide (c ∈ lettersC)) = true := by
    rw [List.all_eq_true]; intro c hc; exact decide_eq_true (h.2.2 c hc)
  rw [h3, decide_eq_true (by omega : (1 : Int) ≤ n.length), decide_eq_true (by omega : (n.length : Int) ≤ 8)]
  rfl
theorem words_join (ws : List Tx) (h0 : ws ≠ []) (h1 : ∀ w ∈ ws, (32 : Nat) ∉ w ∧ w ≠ []) : wordsOf (joinL [32] ws) = ws := by
  unfold wordsOf
  rw [splitC_join 32 ws h0 fun p hp => (h1 p hp).1]
  rw [List.filter_eq_self]
  intro w hw
  exact decide_eq_true (h1 w hw).2
theorem rowK_join (k : Tx) : rowK k = joinL [32] [kindS, k, [45]] := by
  unfold rowK kindS
  rw [k_kind_32_, k__32__45_, k_kind]
  simp [joinL]
theorem rowG_join (k : Tx) : rowG k = joinL [32] [gateS, k] := by
  unfold rowG gateS
  rw [k_gate_32_, k_gate]
  simp [joinL]
theorem rowP_join (x : Tx × Tx × Int × Int) : rowP x = joinL [32] [paceS, x.1, x.2.1, strI x.2.2.1, strI x.2.2.2] := by
  unfold rowP paceS
  rw [k__32_]
theorem joinL_free (s c : Nat) (hs : c ≠ s) (ws : List Tx) (h : ∀ w ∈ ws, c ∉ w) : c ∉ joinL [s] ws := fun z => by
  rcases joinL_mem [s] ws c z with h1 | ⟨p, hp, h2⟩
  · exact hs (List.mem_singleton.mp h1)
  · exact h p hp h2
theorem kindS_free (c : Nat) (h : c < 97) : c ∉ kindS := by unfold kindS; rw [k_kind]; simp; omega
theorem gateS_free (c : Nat) (h : c < 97) : c ∉ gateS := by unfold gateS; rw [k_gate]; simp; omega
theorem paceS_free (c : Nat) (h : c < 97) : c ∉ paceS := by unfold paceS; rw [k_pace]; simp; omega
theorem num_free (n : Int) (h0 : 1 ≤ n) (h1 : n ≤ 60) (c : Nat) (hc : c < 48) : c ∉ strI n := fun z => by
  have := (num_fact n h0 h1).2.2.1 c z; omega
section
variable {gates kinds : List Tx} {ps : List (Tx × Tx × Int × Int)}
theorem PV.wordsP (V : PV gates kinds ps) (x : Tx × Tx × Int × Int) (hx : x ∈ ps) (c : Nat) (hc : c < 48) : ∀ w ∈ [paceS, x.1, x.2.1, strI x.2.2.1, strI x.2.2.2], c ∉ w ∧ w ≠ [] := by
  obtain ⟨a, b, ⟨c1, c2⟩, d1, d2⟩ := V.po x hx
  intro w hw
  simp only [List.mem_cons, List.not_mem_nil, or_false] at hw
  rcases hw with rfl | rfl | rfl | rfl | rfl
  · exact ⟨paceS_free c (by omega), by unfold paceS; rw [k_pace]; simp⟩
  · exact ⟨name_free _ (V.go _ a) c (by omega), name_ne _ (V.go _ a)⟩
  · exact ⟨name_free _ (V.ko _ b) c (by omega), name_ne _ (V.ko _ b)⟩
  · exact ⟨num_free _ c1 c2 c hc, (num_fact _ c1 c2).2.1⟩
  · exact ⟨num_free _ d1 d2 c hc, (num_fact _ d1 d2).2.1⟩
theorem PV.rows_nl (V : PV gates kinds ps) : ∀ y ∈ rowsOf gates kinds ps, (10 : Nat) ∉ y := by
  intro y hy
  unfold rowsOf at hy
  rcases List.mem_append.mp hy with hy | hy
  · rcases List.mem_append.mp hy with hy | hy
    · obtain ⟨k, hk, rfl⟩ := List.mem_map.mp hy
      rw [rowK_join]
      refine joinL_free 32 10 (by decide) _ fun w hw => ?_
      simp only [List.mem_cons, List.not_mem_nil, or_false] at hw
      rcases hw with rfl | rfl | rfl
      · exact kindS_free 10 (by decide)
      · exact name_free _ (V.ko _ hk) 10 (by decide)
      · simp
    · obtain ⟨k, hk, rfl⟩ := List.mem_map.mp hy
      rw [rowG_join]
      refine joinL_free 32 10 (by decide) _ fun w hw => ?_
      simp only [List.mem_cons, List.not_mem_nil, or_false] at hw
      rcases hw with rfl | rfl
      · exact gateS_free 10 (by decide)
      · exact name_free _ (V.go _ hk) 10 (by decide)
  · obtain ⟨k, hk, rfl⟩ := List.mem_map.mp hy
    rw [rowP_join]
    exact joinL_free 32 10 (by decide) _ fun w hw => (V.wordsP k hk 10 (by decide) w hw).1
theorem words_rowK (k : Tx) (h : NameOk k) : wordsOf (rowK k) = [kindS, k, [45]] := by
  rw [rowK_join]
  refine words_join _ (by simp) fun w hw => ?_
  simp only [List.mem_cons, List.not_mem_nil, or_false] at hw
  rcases hw with rfl | rfl | rfl
  · exact ⟨kindS_free 32 (by decide), by unfold kindS; rw [k_kind]; simp⟩
  · exact ⟨name_free _ h 32 (by decide), name_ne _ h⟩
  · simp
theorem words_rowG (k : Tx) (h : NameOk k) : wordsOf (rowG k) = [gateS, k] := by
  rw [rowG_join]
  refine words_join _ (by simp) fun w hw => ?_
  simp only [List.mem_cons, List.not_mem_nil, or_false] at hw
  rcases hw with rfl | rfl
  · exact ⟨gateS_free 32 (by decide), by unfold gateS; rw [k_gate]; simp⟩
  · exact ⟨name_free _ h 32 (by decide), name_ne _ h⟩
theorem PV.words_rowP (V : PV gates kinds ps) (x : Tx × Tx × Int × Int) (hx : x ∈ ps) : wordsOf (rowP x) = [paceS, x.1, x.2.1, strI x.2.2.1, strI x.2.2.2] := by
  rw [rowP_join]
  exact words_join _ (by simp) (V.wordsP x hx 32 (by decide))
theorem gate_ne_kind : gateS ≠ kindS := by unfold gateS kindS; rw [k_gate, k_kind]; decide
theorem pace_ne_kind : paceS ≠ kindS := by unfold paceS kindS; rw [k_pace, k_kind]; decide
theorem pace_ne_gate : paceS ≠ gateS := by unfold paceS gateS; rw [k_pace, k_gate]; decide
theorem any_false {α : Type} (f : α → Tx) (xs : List α) (k : Tx) (h : k ∉ xs.map f) : (xs.any fun q => decide (f q = k)) = false := by
  rw [List.any_eq_false]
  intro q hq
  simp only [decide_eq_true_eq]
  intro e
  exact h (List.mem_map.mpr ⟨q, hq, e⟩)
theorem any_true {α : Type} (f : α → Tx) (xs : List α) (k : Tx) (h : k ∈ xs.map f) : (xs.any fun q => decide (f q = k)) = true := by
  rw [List.any_eq_true]
  obtain ⟨q, hq, e⟩ := List.mem_map.mp h
  exact ⟨q, hq, decide_eq_true e⟩
theorem dash_neg : positiveIn [45] = none := by decide +kernel
theorem read_kinds (rest : List Tx) : ∀ (ks : List Tx) (p : PlD), ks.Nodup → (∀ k ∈ ks, NameOk k) → (∀ k ∈ ks, k ∉ p.kinds.map (·.1)) → readRows p (ks.map rowK ++ rest) = readRows { p with kinds := p.kinds ++ ks.map fun k => (k, none) } rest
  | [], p, _, _, _ => by simp
  | k :: ks, p, hn, ho, hk => by
    rw [List.nodup_cons] at hn
    rw [List.map_cons, List.cons_append, readRows, words_rowK k (ho k (List.mem_cons_self ..))]
    show (match plantRow p kindS [k, [45]] with | some (p', []) => readRows p' (ks.map rowK ++ rest) | _ => none) = _
    have e1 : plantRow p kindS [k, [45]] = some ({ p with kinds := p.kinds ++ [(k, none)] }, []) := by
      unfold plantRow
      rw [if_pos rfl, kindRow_2, if_neg (by rw [isName_ok k (ho k (List.mem_cons_self ..))]; exact fun z => nomatch z), dash_neg, if_neg (fun z => z.2 rfl), any_false (fun q : Tx × Option Int => q.1) p.kinds k (hk k (List.mem_cons_self ..)), if_neg (by exact fun z => nomatch z)]
    rw [e1]
    show readRows { p with kinds := p.kinds ++ [(k, none)] } (ks.map rowK ++ rest) = _
    rw [read_kinds rest ks { p with kinds := p.kinds ++ [(k, none)] } hn.2 (fun z hz => ho z (List.mem_cons_of_mem _ hz)) fun z hz => ?_]
    · simp
    · show z ∉ (p.kinds ++ [((k, none) : Tx × Option Int)]).map (fun q : Tx × Option Int => q.1)
      rw [List.map_append, List.mem_append]
      rintro (h | h)
      · exact hk z (List.mem_cons_of_mem _ hz) h
      · simp at h; subst h; exact hn.1 hz
theorem read_gates (rest : List Tx) : ∀ (gs : List Tx) (p : PlD), gs.Nodup → (∀ k ∈ gs, NameOk k) → (∀ k ∈ gs, k ∉ p.gates) → p.lines = [] → readRows p (gs.map rowG ++ rest) = readRows { p with gates := p.gates ++ gs } rest
  | [], p, _, _, _, _ => by simp
  | k :: gs, p, hn, ho, hk, hl => by
    rw [List.nodup_cons] at hn
    rw [List.map_cons, List.cons_append, readRows, words_rowG k (ho k (List.mem_cons_self ..))]
    show (match plantRow p gateS [k] with | some (p', []) => readRows p' (gs.map rowG ++ rest) | _ => none) = _
    have hp : hasPlace p k = false := by
      unfold hasPlace
      rw [hl, any_false (fun g => g) p.gates k (by rw [List.map_id']; exact hk k (List.mem_cons_self ..))]
      rfl
    have e1 : plantRow p gateS [k] = some ({ p with gates := p.gates ++ [k] }, []) := by
      unfold plantRow
      rw [if_neg gate_ne_kind, if_pos rfl, gateRow_1, if_neg (by rw [isName_ok k (ho k (List.mem_cons_self ..))]; exact fun z => nomatch z), hp, if_neg (by exact fun z => nomatch z)]
    rw [e1]
    show readRows { p with gates := p.gates ++ [k] } (gs.map rowG ++ rest) = _
    rw [read_gates rest gs { p with gates := p.gates ++ [k] } hn.2 (fun z hz => ho z (List.mem_cons_of_mem _ hz)) (fun z hz => ?_) hl]
    · simp
    · show z ∉ p.gates ++ [k]
      rw [List.mem_append]
      rintro (h | h)
      · exact hk z (List.mem_cons_of_mem _ hz) h
      · simp at h; subst h; exact hn.1 hz
theorem read_paces (V : PV gates kinds ps) : ∀ (qs : List (Tx × Tx × Int × Int)) (p : PlD), (∀ q ∈ qs, q ∈ ps) → (qs.map (·.1)).Nodup → (∀ q ∈ qs, q.1 ∉ p.paces.map (·.1)) → p.gates = gates → p.kinds.map (·.1) = kinds → readRows p (qs.map rowP) = some { p with paces := p.paces ++ qs }
  | [], p, _, _, _, _, _ => by simp [readRows]
  | q :: qs, p, hs, hn, hk, hg, hd => by
    rw [List.map_cons, List.nodup_cons] at hn
    have hq := hs q (List.mem_cons_self ..)
    obtain ⟨a, b, ⟨c1, c2⟩, d1, d2⟩ := V.po q hq
    rw [List.map_cons, readRows, V.words_rowP q hq]
    show (match plantRow p paceS [q.1, q.2.1, strI q.2.2.1, strI q.2.2.2] with | some (p', []) => readRows p' (qs.map rowP) | _ => none) = _
    have e1 : plantRow p paceS [q.1, q.2.1, strI q.2.2.1, strI q.2.2.2] = some ({ p with paces := p.paces ++ [q] }, []) := by
      unfold plantRow
      rw [if_neg pace_ne_kind, if_neg pace_ne_gate, if_pos rfl, paceRow_4, if_neg (by rw [isName_ok _ (V.go _ a)]; exact fun z => nomatch z), if_neg (by rw [isName_ok _ (V.ko _ b)]; exact fun z => nomatch z), numbersIn_2, (num_fact _ c1 c2).2.2.2, (num_fact _ d1 d2).2.2.2]
      have f1 : firstDue (p.paces.any fun z => decide (z.1 = q.1)) (!(p.gates.any fun z => decide (z = q.1)) || !(p.kinds.any fun z => decide (z.1 = q.2.1))) false = [] := by
        rw [any_false (fun z : Tx × Tx × Int × Int => z.1) p.paces q.1 (hk q (List.mem_cons_self ..)), any_true (fun g => g) p.gates q.1 (by rw [List.map_id', hg]; exact a), any_true (fun z : Tx × Option Int => z.1) p.kinds q.2.1 (by rw [hd]; exact b)]
        rfl
      show some (if firstDue (p.paces.any fun z => decide (z.1 = q.1)) (!(p.gates.any fun z => decide (z = q.1)) || !(p.kinds.any fun z => decide (z.1 = q.2.1))) false = [] then _ else _) = _
      rw [if_pos f1, f1]
    rw [e1]
    show readRows { p with paces := p.paces ++ [q] } (qs.map rowP) = _
    rw [read_paces V qs { p with paces := p.paces ++ [q] } (fun z hz => hs z (List.mem_cons_of_mem _ hz)) hn.2 (fun z hz => ?_) hg hd]
    · simp
    · show z.1 ∉ (p.paces ++ [q]).map (·.1)
      rw [List.map_append, List.mem_append]
      rintro (h | h)
      · exact hk z (List.mem_cons_of_mem _ hz) h
      · simp at h
        exact hn.1 (List.mem_map.mpr ⟨z, hz, h⟩)
def plantOf (gates kinds : List Tx) (ps : List (Tx × Tx × Int × Int)) : PlD := { kinds := kinds.map fun k => (k, none), gates := gates, paces := ps }
theorem PV.read (V : PV gates kinds ps) : readRows {} (splitC 10 (joinL (tl ("\n" : Str)) (rowsOf gates kinds ps))) = some (plantOf gates kinds ps) := by
  have hne : rowsOf gates kinds ps ≠ [] := fun z => by
    have : (rowsOf gates kinds ps).length = 0 := by rw [z]; rfl
    unfold rowsOf at this
    simp only [List.length_append, List.length_map] at this
    have := V.gl.1; omega
  rw [k__10_, splitC_join 10 _ hne V.rows_nl]
  unfold rowsOf
  rw [List.append_assoc, read_kinds _ kinds {} V.kn V.ko (fun k _ z => by simp at z), read_gates _ gates _ V.gn V.go (fun k _ z => by simp at z) rfl, read_paces V ps _ (fun _ z => z) V.pn (fun q _ z => by simp at z) (by rfl)]
  · unfold plantOf
    simp
  · show (([] : List (Tx × Option Int)) ++ kinds.map fun k => (k, none)).map (fun q : Tx × Option Int => q.1) = kinds
    rw [List.nil_append, List.map_map]
    exact List.map_id _
theorem PV.ok_read (V : PV gates kinds ps) : ok_read_plant (joinL (tl ("\n" : Str)) (rowsOf gates kinds ps)) := by
  refine ⟨?_, by rw [V.read]; rfl⟩
  have h1 := joinL_len (tl ("\n" : Str)) (rowsOf gates kinds ps)
  have h2 : ((rowsOf gates kinds ps).map (·.length)).sum ≤ (rowsOf gates kinds ps).length * 60 := sum_le 60 _ V.rows_len
  have h3 := V.rows_many
  rw [len_nl] at h1
  have h1' : (joinL (tl ("\n" : Str)) (rowsOf gates kinds ps)).length ≤ ((rowsOf gates kinds ps).map (·.length)).sum + (rowsOf gates kinds ps).length * 1 := h1
  have : (rowsOf gates kinds ps).length * 60 ≤ 24 * 60 := Nat.mul_le_mul_right _ h3
  rw [sizeL]; omega
theorem PV.f_read (V : PV gates kinds ps) : f_read_plant (joinL (tl ("\n" : Str)) (rowsOf gates kinds ps)) = plantOf gates kinds ps := by
  unfold f_read_plant; rw [V.read]; rfl
end
end K67
set_option Elab.async false
set_option linter.all false
set_option maxRecDepth 100000
set_option maxHeartbeats 1000000
namespace K67
open PySem PySem.Spec PyProof.Rows L2 TL
/-! plain: dicts -/
section
variable {κ α : Type} [DecidableEq κ]
theorem gk_cons (k k' : κ) (v : α) (m : List (κ × α)) : getK ((k', v) :: m) k = if k' = k then some v else getK m k := by
  by_cases h : k' = k <;> simp [getK, List.find?, h]
theorem hasK_iff (k : κ) : ∀ m : List (κ × α), hasK m k = true ↔ k ∈ m.map (·.1)
  | [] => by simp [hasK, getK]
  | (k', v) :: m => by
    unfold hasK
    rw [gk_cons]
    by_cases h : k' = k
    · simp [h]
    · rw [if_neg h]
      have := hasK_iff k m
      unfold hasK at this
      rw [this]
      simp [Ne.symm h]
theorem setK_keys (k : κ) (v : α) : ∀ m : List (κ × α), (setK k v m).map (·.1) = m.map (·.1)
  | [] => rfl
  | (k', w) :: m => by
    by_cases h : k' = k
    · simp [setK, h]
    · simp [setK, h, setK_keys k v m]
theorem gk_set (k k' : κ) (v : α) : ∀ m : List (κ × α), getK (setK k v m) k' = if k' = k ∧ hasK m k = true then some v else getK m k'
  | [] => by simp [setK, getK, hasK]
  | (j, w) :: m => by
    by_cases h : j = k
    · subst h
      have e : setK j v ((j, w) :: m) = (j, v) :: m := by simp [setK]
      rw [e, gk_cons, gk_cons]
      by_cases h2 : j = k'
      · subst h2; simp [hasK, gk_cons]
      · rw [if_neg h2, if_neg h2, if_neg fun z => h2 z.1.symm]
    · have e : setK k v ((j, w) :: m) = (j, w) :: setK k v m := by simp [setK, h]
      rw [e, gk_cons, gk_cons, gk_set k k' v m]
      have hh : hasK ((j, w) :: m) k = hasK m k := by unfold hasK; rw [gk_cons, if_neg h]
      rw [hh]
      by_cases h2 : j = k'
      · subst h2
        rw [if_pos rfl, if_pos rfl, if_neg fun z => h z.1]
      · rw [if_neg h2, if_neg h2]
theorem set_mem (k : κ) (v : α) : ∀ (m : List (κ × α)) (q : κ × α), q ∈ setK k v m → q ∈ m ∨ q.2 = v
  | [], q, h => .inl h
  | (j, w) :: m, q, h => by
    by_cases e : j = k
    · subst e
      have e2 : setK j v ((j, w) :: m) = (j, v) :: m := by simp [setK]
      rw [e2] at h
      rcases List.mem_cons.mp h with rfl | h
      · exact .inr rfl
      · exact .inl (List.mem_cons_of_mem _ h)
    · have e2 : setK k v ((j, w) :: m) = (j, w) :: setK k v m := by simp [setK, e]
      rw [e2] at h
      rcases List.mem_cons.mp h with rfl | h
      · exact .inl (List.mem_cons_self ..)
      · exact (set_mem k v m q h).imp (List.mem_cons_of_mem _) id
theorem gk_mem (k : κ) (v : α) : ∀ m : List (κ × α), getK m k = some v → (k, v) ∈ m
  | [], h => by simp [getK] at h
  | (j, w) :: m, h => by
    rw [gk_cons] at h
    by_cases e : j = k
    · rw [if_pos e] at h; cases h; subst e; exact List.mem_cons_self ..
    · rw [if_neg e] at h; exact List.mem_cons_of_mem _ (gk_mem k v m h)
theorem gk_app (k j : κ) (w : α) : ∀ m : List (κ × α), getK (m ++ [(j, w)]) k = match getK m k with
    | some v => some v
    | none => if j = k then some w else none
  | [] => by
    rw [List.nil_append, gk_cons]
    rfl
  | (i, u) :: m => by
    rw [List.cons_append, gk_cons, gk_cons, gk_app k j w m]
    by_cases h : i = k
    · rw [if_pos h, if_pos h]
    · rw [if_neg h, if_neg h]
theorem idx_none (k : κ) : ∀ m : List (κ × α), idxK k m = none ↔ getK m k = none
  | [] => by simp [idxK, getK]
  | (j, w) :: m => by
    rw [gk_cons]
    by_cases h : j = k
    · simp [idxK, h]
    · simp [idxK, h, idx_none k m]
theorem gk_put (k k' : κ) (v : α) (m : List (κ × α)) : getK (putT k v m) k' = if k' = k then some v else getK m k' := by
  unfold putT
  cases h : idxK k m with
  | none =>
    have h2 := (idx_none k m).mp h
    show getK (m ++ [(k, v)]) k' = _
    rw [gk_app]
    by_cases e : k' = k
    · subst e; rw [h2]; try simp
    · rw [if_neg e, if_neg (fun z => e z.symm)]
      cases getK m k' <;> rfl
  | some n =>
    have h2 : hasK m k = true := by
      unfold hasK
      cases q : getK m k with
      | none => rw [(idx_none k m).mpr q] at h; cases h
      | some v => rfl
    show getK (setK k v m) k' = _
    rw [gk_set, h2]
    simp
end
theorem idxL_mem {α : Type} [DecidableEq α] (x : α) : ∀ xs : List α, x ∈ xs → ∃ i, idxL x xs = some i ∧ i < xs.length
  | [], h => nomatch h
  | y :: ys, h => by
    by_cases e : y = x
    · exact ⟨0, by simp [idxL, e], by simp⟩
    · rcases List.mem_cons.mp h with h | h
      · exact absurd h.symm e
      · obtain ⟨i, h1, h2⟩ := idxL_mem x ys h
        exact ⟨i + 1, by simp [idxL, e, h1], by simp [h2]⟩
theorem upI_len (lo : Int) (n : Nat) : (upI lo n).length = n := by unfold upI; rw [List.length_map, List.length_range]
theorem enumL_len {α : Type} : ∀ (n : Nat) (xs : List α), (enumL n xs).length = xs.length
  | _, [] => rfl
  | n, x :: xs => by rw [enumL, List.length_cons, List.length_cons, enumL_len]
/-! plain: the draws' cells -/
theorem left_ok (script : List Int) (k : Int) (h0 : 0 ≤ k) : ok__law_left script k := by
  unfold ok__law_left
  have fin : ∀ cell : Int, All [CMul (cell.natAbs : Int) (if ((decide (((10 : Int) ^ ((18 : Int)).toNat) ≤ (cell.natAbs : Int))) && (decide (k < (script.length : Int)))) = true then (1 : Int) else 0),
  (let great : Int := ((cell.natAbs : Int) * (if ((decide (((10 : Int) ^ ((18 : Int)).toNat) ≤ (cell.natAbs : Int))) && (decide (k < (script.length : Int)))) = true then (1 : Int) else 0))
  All [(0 : Int) < ((10 : Int) ^ ((30 : Int)).toNat)])] := fun cell => ⟨.inr (by split <;> exact ⟨by decide, by decide⟩), ⟨by decide, trivial⟩, trivial⟩
  refine ⟨?_, fin _, trivial⟩
  by_cases h : (0 : Int) < script.length
  · rw [if_pos (decide_eq_true h)]
    obtain ⟨x, hx, _⟩ := atI_range script (k % (script.length : Int)) (Int.emod_nonneg _ (by omega)) (Int.emod_lt_of_pos _ h)
    exact ⟨h, by rw [hx]; rfl, trivial⟩
  · rw [if_neg (by simpa using h)]; trivial
/-! plain: a day -/
section
variable {gates kinds : List Tx} {ps : List (Tx × Tx × Int × Int)} {txt : Tx}
theorem PV.pace (V : PV gates kinds ps) (g : Tx) (h : hasK ps g = true) : ∃ q : Tx × Int × Int, getK ps g = some q ∧ (1 ≤ q.2.1 ∧ q.2.1 ≤ 60) ∧ 1 ≤ q.2.2 ∧ q.2.2 ≤ 60 := by
  unfold hasK at h
  cases e : getK ps g with
  | none => rw [e] at h; cases h
  | some q =>
    have := V.po _ (gk_mem g q ps e)
    exact ⟨q, rfl, this.2.2⟩
theorem earliest_ok (q : Tx × Int × Int) (ts : List Int) (h : 1 ≤ q.2.2 ∧ q.2.2 ≤ 60) (hl : ts.length < 1000000) : ok__law_earliest q ts := by
  unfold ok__law_earliest
  refine ⟨⟨fun x _ => ⟨.inr ⟨by omega, by omega⟩, trivial⟩, ?_, ?_, trivial⟩, trivial⟩
  · rw [sizeL, List.length_map, enumL_len]; simp only [List.length_cons, List.length_nil]; omega
  · rw [List.singleton_append]; rfl
structure Come (gates : List Tx) (come : List (Tx × List Int)) (n : Nat) : Prop where
  keys : come.map (·.1) = gates
  len : ∀ q ∈ come, q.2.length ≤ n
theorem Come.has {come : List (Tx × List Int)} {n : Nat} (c : Come gates come n) (g : Tx) (h : g ∈ gates) : ∃ ts, getK come g = some ts ∧ ts.length ≤ n := by
  have : hasK come g = true := (hasK_iff g come).mpr (by rw [c.keys]; exact h)
  unfold hasK at this
  cases e : getK come g with
  | none => rw [e] at this; cases this
  | some ts => exact ⟨ts, rfl, c.len _ (gk_mem g ts come e)⟩
theorem Come.set {come : List (Tx × List Int)} {n : Nat} (c : Come gates come n) (g : Tx) (ts : List Int) (h : ts.length ≤ n + 1) : Come gates (setK g ts come) (n + 1) :=
  ⟨by rw [setK_keys]; exact c.keys, fun q hq => by
    rcases set_mem g ts come q hq with h1 | h1
    · have := c.len q h1; omega
    · rw [h1]; exact h⟩
theorem next_of (V : PV gates kinds ps) (come : List (Tx × List Int)) (n : Nat) (c : Come gates come n) (hn : n < 1000000) (now few : Int) (f0 : 1 ≤ few) (f1 : few ≤ gates.length) (P : Tx × Int → Prop) (h : ∀ g t, g ∈ gates → P (g, t)) : m__law_next_gate (gates, kinds, ps, txt) come now few P := by
  unfold m__law_next_gate
  refine ⟨⟨⟨by omega, by omega⟩, trivial⟩, ⟨by rw [upI_len, sizeL]; decide, trivial⟩, ?_⟩
  have := V.gl
  refine mapW_all (fun y => y ∈ gates) (fun x Q hq => ?_) _ _ fun ys hl hys => ?_
  · refine pick_of (by omega) (by omega) fun d a0 a1 => ?_
    obtain ⟨g, hg, hm⟩ := atI_range gates d a0 (by omega)
    refine ⟨⟨by show (atI gates d).isSome = true; rw [hg]; rfl, trivial⟩, ?_⟩
    show Q ((atI gates d).getD default)
    rw [hg]; exact hq g hm
  · rw [upI_len] at hl
    have hl : ys.length = 2 := hl
    have key : ∀ times : List Int, times.length = 2 → times.min?.isSome = true ∧ ∃ i, idxL (times.min?.getD 0) times = some i ∧ i < 2 := by
      intro times ht
      cases times with
      | nil => cases ht
      | cons t ts =>
        have hm : ∃ m, (t :: ts).min? = some m := ⟨_, rfl⟩
        obtain ⟨m, hm⟩ := hm
        refine ⟨by rw [hm]; rfl, ?_⟩
        rw [hm]
        obtain ⟨i, h1, h2⟩ := idxL_mem m (t :: ts) (List.min?_mem hm)
        exact ⟨i, h1, by rw [ht] at h2; exact h2⟩
    have tl2 : (ys.map fun (x7 : Tx) => (if (hasK ps x7) = true then (max now (f__law_earliest ((getK ps x7).getD default) ((getK come x7).getD default))) else now)).length = 2 := by rw [List.length_map]; exact hl
    obtain ⟨k1, i, k2, k3⟩ := key _ tl2
    obtain ⟨y, hy, hym⟩ := atI_range ys (i : Int) (by omega) (by omega)
    obtain ⟨t, ht, htm⟩ := atI_range (ys.map fun (x7 : Tx) => (if (hasK ps x7) = true then (max now (f__law_earliest ((getK ps x7).getD default) ((getK come x7).getD default))) else now)) (i : Int) (by omega) (by rw [tl2]; omega)
    refine ⟨⟨fun x hx => ⟨?_, trivial⟩, ⟨k1, by rw [k2]; rfl, ?_⟩, trivial⟩, ?_⟩
    · show if hasK ps x = true then _ else _
      by_cases hk : hasK ps x = true
      · rw [if_pos hk]
        obtain ⟨q, e, _, g1⟩ := V.pace x hk
        obtain ⟨ts, e2, g2⟩ := c.has x (hys x hx)
        refine ⟨hk, by unfold hasK; rw [e2]; rfl, ?_, trivial⟩
        show ok__law_earliest ((getK ps x).getD default) ((getK come x).getD default)
        rw [e, e2]
        exact earliest_ok q ts g1 (by show ts.length < 1000000; omega)
      · rw [if_neg hk]; trivial
    · rw [k2]
      exact ⟨⟨by show (atI ys (i : Int)).isSome = true; rw [hy]; rfl, by show (atI _ (i : Int)).isSome = true; rw [ht]; rfl, trivial⟩, trivial⟩
    · show P (((atI ys ((((idxL ((ys.map fun (x7 : Tx) => (if (hasK ps x7) = true then (max now (f__law_earliest ((getK ps x7).getD default) ((getK come x7).getD default))) else now)).min?.getD 0) (ys.map fun (x7 : Tx) => (if (hasK ps x7) = true then (max now (f__law_earliest ((getK ps x7).getD default) ((getK come x7).getD default))) else now))).getD 0 : Nat) : Int))).getD default), _)
      rw [k2]
      show P ((atI ys (i : Int)).getD default, _)
      rw [hy]
      exact h _ _ (hys _ hym)
theorem day_of (V : PV gates kinds ps) (script : List Int) (size few : Int) (s0 : 0 ≤ size) (s1 : size ≤ 200) (f0 : 1 ≤ few) (f1 : few ≤ gates.length) (P : List (Int × Tx × Tx × Tx) → Prop) (h : ∀ day : List (Int × Tx × Tx × Tx), day.length = size.toNat → (∀ x ∈ day, x.2.1 ∈ gates) → P day) : m__law_day script (gates, kinds, ps, txt) size few P := by
  unfold m__law_day
  refine ⟨⟨⟨by omega, by omega⟩, trivial⟩, ⟨by rw [upI_len, sizeL]; decide, trivial⟩, ?_⟩
  have lefts : ∀ (xs : List Int) (Q : List Unit → Prop), (∀ x ∈ xs, 0 ≤ x) → (∀ ys : List Unit, ys.length = xs.length → Q ys) → mapW (fun (x1 : Int) (P : Unit → Prop) => m__law_left script ((1 : Int) + x1) fun (d3 : Unit) => P d3) xs Q := by
    intro xs
    induction xs with
    | nil => intro Q _ hq; exact hq [] rfl
    | cons x xs ih =>
      intro Q hx hq
      refine ⟨left_ok script _ (by have := hx x (List.mem_cons_self ..); omega), ?_⟩
      exact ih _ (fun z hz => hx z (List.mem_cons_of_mem _ hz)) fun ys hl => hq (() :: ys) (by simp [hl])
  refine lefts _ _ (fun x hx => ?_) fun ls hl => ?_
  · unfold upI at hx
    obtain ⟨i, _, rfl⟩ := List.mem_map.mp hx
    omega
  rw [upI_len] at hl
  have hl : ls.length = 62 := hl
  refine ⟨⟨fun _ _ => trivial, by rw [List.map_id']; exact V.gn, trivial⟩, ⟨⟨by omega, by omega⟩, trivial⟩, ?_⟩
  have gen : ∀ (xs : List Int) (day : List (Int × Tx × Tx × Tx)) (now : Int) (come : List (Tx × List Int)) (n : Nat), n + xs.length ≤ 200 → day.length = n → (∀ x ∈ day, x.2.1 ∈ gates) → Come gates come n → (∀ d : List (Int × Tx × Tx × Tx), d.length = n + xs.length → (∀ x ∈ d, x.2.1 ∈ gates) → P d) → loopWN (m__law_day_st1 (gates, kinds, ps, txt) few ls) xs (day, now, come) fun s7 => P s7.1 := by
    intro xs
    induction xs with
    | nil => intro day now come n _ hd hg c hP; exact hP day (by simp [hd]) hg
    | cons x xs ih =>
      intro day now come n hn hd hg c hP
      simp only [List.length_cons] at hn
      show m__law_day_st1 (gates, kinds, ps, txt) few ls (day, now, come) x (fun s' => loopWN (m__law_day_st1 (gates, kinds, ps, txt) few ls) xs s' fun s7 => P s7.1)
      unfold m__law_day_st1
      obtain ⟨l, hl2, _⟩ := atI_range ls (x % 62) (by omega) (by omega)
      refine ⟨⟨by rw [hl2]; rfl, trivial⟩, ?_⟩
      show m__law_next_gate (gates, kinds, ps, txt) come now few _
      refine next_of V come n c (by omega) now few f0 f1 _ fun g t hgm => ?_
      have kind : ∃ kd : Tx, (All [if (hasK ps g) = true then All [hasK ps g = true] else All [(atI kinds (0 : Int)).isSome = true]]) := by
        refine ⟨[], ?_, trivial⟩
        by_cases hk : hasK ps g = true
        · rw [if_pos hk]; exact ⟨hk, trivial⟩
        · rw [if_neg hk]
          obtain ⟨z, hz, _⟩ := atI_range kinds 0 (by omega) (by have := V.kl.1; omega)
          exact ⟨by rw [hz]; rfl, trivial⟩
      obtain ⟨_, hkd⟩ := kind
      refine ⟨hkd, ?_⟩
      refine pick_of (by decide) (by decide) fun d a0 a1 => ?_
      obtain ⟨z, hz, _⟩ := atI_range [(0 : Int), (0 : Int), (0 : Int), (0 : Int), (0 : Int), (0 : Int), (0 : Int), (0 : Int), (0 : Int), (0 : Int), (-(1 : Int)), (1 : Int), (3 : Int), (0 : Int), (0 : Int), (0 : Int)] d a0 (by simpa using a1)
      refine ⟨⟨by rw [hz]; rfl, trivial⟩, ?_⟩
      obtain ⟨ts, e2, g2⟩ := c.has g hgm
      have hh : hasK come g = true := by unfold hasK; rw [e2]; rfl
      refine ⟨⟨hh, ?_, ⟨?_, trivial⟩, trivial⟩, ?_⟩
      · show ((getK come g).getD default).length < sizeLine
        rw [e2, sizeL]; show ts.length < _; omega
      · show day.length < sizeLine
        rw [sizeL]; omega
      · show loopWN (m__law_day_st1 (gates, kinds, ps, txt) few ls) xs (day ++ [(_, g, _, _)], _, setK g (((getK come g).getD default) ++ [_]) come) fun s7 => P s7.1
        refine ih _ _ _ (n + 1) (by omega) (by simp [hd]) ?_ ?_ ?_
        · intro y hy
          rcases List.mem_append.mp hy with hy | hy
          · exact hg y hy
          · rw [List.mem_singleton.mp hy]; exact hgm
        · refine c.set g _ ?_
          rw [e2]; simp; omega
        · intro d2 hd2
          exact hP d2 (by simp only [List.length_cons]; omega)
  have c0 : Come gates (gates.map fun (x5 : Tx) => (x5, ([] : (List Int)))) 0 := ⟨by rw [List.map_map]; exact List.map_id _, fun q hq => by
    obtain ⟨g, _, rfl⟩ := List.mem_map.mp hq
    exact Nat.le_refl _⟩
  refine gen (upI 0 size.toNat) [] 0 _ 0 (by rw [upI_len]; omega) rfl (fun _ z => nomatch z) c0 fun d hd => h d ?_
  rw [upI_len] at hd
  omega
end
end K67
set_option Elab.async false
set_option linter.all false
set_option maxRecDepth 100000
set_option maxHeartbeats 1000000
namespace K67
open PySem PySem.Spec PyProof.Rows L2 TL
/-! plain: the law's own count is the program's -/
theorem tf_any (n last b a : Int) : ∀ (k : Nat) (l : List Int), tf n last b a (k : Int) l = ((enumL k (l.map fun x5 => b + (last - x5) / a)).map fun (x6 : Int × Int) => decide (x6.2 < n - x6.1)).any id
  | _, [] => rfl
  | k, t :: l => by
    have ih := tf_any n last b a (k + 1) l
    rw [show ((k + 1 : Nat) : Int) = (k : Int) + 1 from rfl] at ih
    show (decide (b + (last - t) / a < n - k) || tf n last b a ((k : Int) + 1) l) = _
    rw [ih]; rfl
theorem tooFast_any (ts : List Int) (t : Int) (q : List Nat × Int × Int) : tooFast (ts ++ [t]) q = ((enumL 0 ((ts ++ [t]).map fun x5 => q.2.1 + (t - x5) / q.2.2)).map fun (x6 : Int × Int) => decide (x6.2 < ((ts ++ [t]).length : Int) - x6.1)).any id := by
  unfold tooFast
  rw [show (ts ++ [t]).getLast?.getD 0 = t from by simp]
  exact tf_any _ _ _ _ 0 _
section
variable {gates kinds : List Tx} {ps : List (Tx × Tx × Int × Int)} {txt : Tx}
theorem due_gen (V : PV gates kinds ps) (c0 : List (Tx × List Int)) : ∀ (day : List (Int × Tx × Tx × Tx)) (n : Nat) (m : Met) (come : List (Tx × List Int)), (∀ x ∈ day, x.2.1 ∈ gates) → come.map (·.1) = gates → (∀ g, hasK ps g = true → (getK m g).getD [] = (getK come g).getD []) →
    paceFault (plantOf gates kinds ps) (n : Int) m (day.map toGood) = (loopF (f__law_due_st1 (gates, kinds, ps, txt) c0) (enumL n day) come).on (fun _ => none) fun r7 => r7
  | [], n, m, come, _, _, _ => rfl
  | x :: day, n, m, come, hg, hk, hm => by
    have hx := hg x (List.mem_cons_self ..)
    have hh : hasK come x.2.1 = true := (hasK_iff _ come).mpr (by rw [hk]; exact hx)
    have hp : paceOf (plantOf gates kinds ps) x.2.1 = getK ps x.2.1 := rfl
    rw [List.map_cons, paceFault_cons, show (toGood x).g = x.2.1 from rfl, hp, enumL, loopF_cons]
    have keys' : ∀ v, (setK x.2.1 v come).map (·.1) = gates := fun v => by rw [setK_keys]; exact hk
    have e1 : ((n + 1 : Nat) : Int) = (n : Int) + 1 := rfl
    cases hq : getK ps x.2.1 with
    | none =>
      have hf : hasK ps x.2.1 = false := by unfold hasK; rw [hq]; rfl
      have st : f__law_due_st1 (gates, kinds, ps, txt) c0 come ((n : Int), x) = .nx (setK x.2.1 (((getK come x.2.1).getD default) ++ [x.1]) come) := by
        unfold f__law_due_st1
        show (if hasK ps x.2.1 = true then _ else _) = _
        rw [if_neg (by rw [hf]; exact Bool.false_ne_true)]
      rw [st, Step.on_nx]
      show paceFault (plantOf gates kinds ps) ((n : Int) + 1) m (day.map toGood) = _
      rw [← e1]
      refine due_gen V c0 day (n + 1) m _ (fun z hz => hg z (List.mem_cons_of_mem _ hz)) (keys' _) fun g hgk => ?_
      rw [gk_set, if_neg (fun z => by rw [z.1, hf] at hgk; cases hgk)]
      exact hm g hgk
    | some q =>
      have hf : hasK ps x.2.1 = true := by unfold hasK; rw [hq]; rfl
      have hold := hm x.2.1 hf
      have cond : (x.2.2.1 ≠ q.1 ∨ tooFast ((getK m x.2.1).getD [] ++ [x.1]) q = true) ↔ ((!(decide (x.2.2.1 = q.1))) || (((enumL 0 (((getK (setK x.2.1 (((getK come x.2.1).getD default) ++ [x.1]) come) x.2.1).getD default).map fun (x5 : Int) => (q.2.1 + ((x.1 - x5) / q.2.2)))).map fun (x6 : (Int × Int)) => (decide (x6.2 < ((((getK (setK x.2.1 (((getK come x.2.1).getD default) ++ [x.1]) come) x.2.1).getD default).length : Int) - x6.1)))).any id)) = true := by
        rw [hold, tooFast_any, gk_set, if_pos ⟨rfl, hh⟩]
        show _ ↔ ((!(decide (x.2.2.1 = q.1))) || (((enumL 0 ((((getK come x.2.1).getD []) ++ [x.1]).map fun (x5 : Int) => (q.2.1 + ((x.1 - x5) / q.2.2)))).map fun (x6 : (Int × Int)) => (decide (x6.2 < (((((getK come x.2.1).getD []) ++ [x.1]).length : Int) - x6.1)))).any id)) = true
        by_cases hk2 : x.2.2.1 = q.1 <;> simp [hk2]
      by_cases hc : x.2.2.1 ≠ q.1 ∨ tooFast ((getK m x.2.1).getD [] ++ [x.1]) q = true
      · have st : f__law_due_st1 (gates, kinds, ps, txt) c0 come ((n : Int), x) = .rt (some (n : Int)) := by
          unfold f__law_due_st1
          show (if hasK ps x.2.1 = true then (if ((!(decide (x.2.2.1 = ((getK ps x.2.1).getD default).1))) || _) = true then _ else _) else _) = _
          rw [if_pos hf, hq]
          exact if_pos (cond.mp hc)
        rw [st, Step.on_rt]
        show (if (toGood x).k ≠ q.1 ∨ tooFast ((getK m x.2.1).getD [] ++ [(toGood x).t]) q = true then some (n : Int) else _) = _
        exact if_pos hc
      · have st : f__law_due_st1 (gates, kinds, ps, txt) c0 come ((n : Int), x) = .nx (setK x.2.1 (((getK come x.2.1).getD default) ++ [x.1]) come) := by
          unfold f__law_due_st1
          show (if hasK ps x.2.1 = true then (if ((!(decide (x.2.2.1 = ((getK ps x.2.1).getD default).1))) || _) = true then _ else _) else _) = _
          rw [if_pos hf, hq]
          exact if_neg (fun z => hc (cond.mpr z))
        rw [st, Step.on_nx]
        show (if (toGood x).k ≠ q.1 ∨ tooFast ((getK m x.2.1).getD [] ++ [(toGood x).t]) q = true then some (n : Int) else paceFault (plantOf gates kinds ps) ((n : Int) + 1) (metAdd m x.2.1 x.1) (day.map toGood)) = _
        rw [if_neg (show ¬ ((toGood x).k ≠ q.1 ∨ tooFast ((getK m x.2.1).getD [] ++ [(toGood x).t]) q = true) from hc), ← e1]
        refine due_gen V c0 day (n + 1) _ _ (fun z hz => hg z (List.mem_cons_of_mem _ hz)) (keys' _) fun g hgk => ?_
        unfold metAdd
        rw [gk_put, gk_set, hold]
        by_cases e : g = x.2.1
        · subst e
          rw [if_pos rfl, if_pos ⟨rfl, hh⟩]; rfl
        · rw [if_neg e, if_neg fun z => e z.1]
          exact hm g hgk
theorem due_eq (V : PV gates kinds ps) (day : List (Int × Tx × Tx × Tx)) (hg : ∀ x ∈ day, x.2.1 ∈ gates) : f_pace_fault (plantOf gates kinds ps) day = f__law_due (gates, kinds, ps, txt) day := by
  unfold f_pace_fault f__law_due
  have k0 : (gates.map fun (x1 : Tx) => (x1, ([] : (List Int)))).map (·.1) = gates := by rw [List.map_map]; exact List.map_id _
  refine due_gen V _ day 0 [] _ hg k0 fun g hgk => ?_
  have : g ∈ gates := by
    obtain ⟨q, hq, e⟩ := List.mem_map.mp ((hasK_iff g ps).mp hgk)
    rw [← e]; exact (V.po q hq).1
  have c : Come gates (gates.map fun (x1 : Tx) => (x1, ([] : (List Int)))) 0 := ⟨k0, fun q hq => by
    obtain ⟨g, _, rfl⟩ := List.mem_map.mp hq
    exact Nat.le_refl _⟩
  obtain ⟨ts, e2, g2⟩ := c.has g this
  rw [e2]
  have : ts = [] := List.length_eq_zero_iff.mp (by omega)
  subst this; rfl
theorem due_ok (V : PV gates kinds ps) (day : List (Int × Tx × Tx × Tx)) (hl : day.length ≤ 100000) (hg : ∀ x ∈ day, x.2.1 ∈ gates) : ok__law_due (gates, kinds, ps, txt) day := by
  unfold ok__law_due
  have gen : ∀ (c0 : List (Tx × List Int)) (d : List (Int × Tx × Tx × Tx)) (n k : Nat) (come : List (Tx × List Int)), n + d.length ≤ 100000 → Come gates come n → (∀ x ∈ d, x.2.1 ∈ gates) → okF (ok__law_due_st1 (gates, kinds, ps, txt) c0) (f__law_due_st1 (gates, kinds, ps, txt) c0) (enumL k d) come := by
    intro c0 d
    induction d with
    | nil => intros; trivial
    | cons x d ih =>
      intro n k come hn c hg
      simp only [List.length_cons] at hn
      have hx := hg x (List.mem_cons_self ..)
      obtain ⟨ts, e2, g2⟩ := c.has x.2.1 hx
      have hh : hasK come x.2.1 = true := by unfold hasK; rw [e2]; rfl
      have cs : Come gates (setK x.2.1 (((getK come x.2.1).getD default) ++ [x.1]) come) (n + 1) := c.set _ _ (by rw [e2]; simp; omega)
      have hh2 : hasK (setK x.2.1 (((getK come x.2.1).getD default) ++ [x.1]) come) x.2.1 = true := (hasK_iff _ _).mpr (by rw [setK_keys]; exact (hasK_iff _ _).mp hh)
      refine ⟨?_, ?_⟩
      · unfold ok__law_due_st1
        refine ⟨hh, by show ((getK come x.2.1).getD default).length < sizeLine; rw [e2, sizeL]; show ts.length < _; omega, ⟨?_, trivial⟩, trivial⟩
        show (if hasK ps x.2.1 = true then _ else _)
        by_cases hf : hasK ps x.2.1 = true
        · rw [if_pos hf]
          obtain ⟨q, e, _, g1⟩ := V.pace _ hf
          refine ⟨hf, ⟨hh2, ⟨hh2, fun z _ => ⟨?_, trivial⟩, trivial⟩, trivial⟩, trivial⟩
          show CDiv _ ((getK ps x.2.1).getD default).2.2
          rw [e]
          exact ⟨by show 0 < q.2.2; omega, by show q.2.2 < _; omega⟩
        · rw [if_neg hf]; trivial
      · cases hs : f__law_due_st1 (gates, kinds, ps, txt) c0 come ((k : Int), x) with
        | rt m => trivial
        | nx s' =>
          have es : s' = setK x.2.1 (((getK come x.2.1).getD default) ++ [x.1]) come := by
            unfold f__law_due_st1 at hs
            revert hs
            show (if hasK ps x.2.1 = true then (if _ = true then (Step.rt _ : Step (List (Tx × List Int)) (Option Int)) else .nx (setK x.2.1 (((getK come x.2.1).getD default) ++ [x.1]) come)) else .nx (setK x.2.1 (((getK come x.2.1).getD default) ++ [x.1]) come)) = _ → _
            split
            · split
              · intro z; cases z
              · intro z; cases z; rfl
            · intro z; cases z; rfl
          rw [es]
          exact ih (n + 1) (k + 1) _ (by omega) cs fun z hz => hg z (List.mem_cons_of_mem _ hz)
  have c : Come gates (gates.map fun (x1 : Tx) => (x1, ([] : (List Int)))) 0 := ⟨by rw [List.map_map]; exact List.map_id _, fun q hq => by
    obtain ⟨g, _, rfl⟩ := List.mem_map.mp hq
    exact Nat.le_refl _⟩
  refine ⟨fun _ _ => trivial, by rw [List.map_id']; exact V.gn, ⟨gen _ day 0 0 _ (by omega) c hg, ?_, trivial⟩, trivial⟩
  cases (loopF (f__law_due_st1 (gates, kinds, ps, txt) (gates.map fun (x1 : Tx) => (x1, ([] : (List Int))))) (enumL 0 day) (gates.map fun (x1 : Tx) => (x1, ([] : (List Int))))) <;> trivial
theorem same_self (o : Option Int) : f__law_same o o = true := by
  unfold f__law_same
  cases o with
  | none => rfl
  | some i => simp
theorem same_ok (a b : Option Int) : ok__law_same a b := by
  unfold ok__law_same
  refine ⟨?_, trivial⟩
  rw [Bool.and_false, if_neg Bool.false_ne_true]; trivial
theorem cut_mem {α : Type} (xs : List α) (lo hi : Option Int) : ∀ x ∈ cut xs lo hi, x ∈ xs := fun x h => List.mem_of_mem_drop (List.mem_of_mem_take h)
theorem cut_len {α : Type} (xs : List α) (lo hi : Option Int) : (cut xs lo hi).length ≤ xs.length := by
  unfold cut; rw [List.length_take, List.length_drop]; omega
theorem turns_ok (V : PV gates kinds ps) (d0 : List (Int × Tx × Tx × Tx)) : ∀ (xs : List Int) (day : List (Int × Tx × Tx × Tx)) (B : Nat), day.length ≤ B → B * 2 ^ xs.length ≤ 100000 → (∀ x ∈ day, x.2.1 ∈ gates) →
    okF (ok_law_st1 (gates, kinds, ps, txt) (plantOf gates kinds ps, (gates.length : Int))) (f_law_st1 (gates, kinds, ps, txt) (plantOf gates kinds ps, (gates.length : Int)) d0) xs day ∧ ∃ d, loopF (f_law_st1 (gates, kinds, ps, txt) (plantOf gates kinds ps, (gates.length : Int)) d0) xs day = .nx d
  | [], day, B, _, _, _ => ⟨trivial, day, rfl⟩
  | x :: xs, day, B, hl, hB, hg => by
    have hB2 : B * 2 ^ (x :: xs).length = (2 * B) * 2 ^ xs.length := by rw [List.length_cons, Nat.pow_succ]; rw [Nat.mul_comm 2 B, Nat.mul_assoc, Nat.mul_comm 2]
    rw [hB2] at hB
    have hpos : 1 ≤ 2 ^ xs.length := Nat.one_le_two_pow
    have hB3 : 2 * B ≤ 100000 := Nat.le_trans (Nat.le_mul_of_pos_right _ hpos) hB
    have eq : f_pace_fault (plantOf gates kinds ps) day = f__law_due (gates, kinds, ps, txt) day := due_eq V day hg
    have c : ((!(f__law_same (f_pace_fault (plantOf gates kinds ps) day) (f__law_due (gates, kinds, ps, txt) day))) || (!(decide (day = day)))) = false := by
      rw [eq, same_self]; simp
    have st : f_law_st1 (gates, kinds, ps, txt) (plantOf gates kinds ps, (gates.length : Int)) d0 day x = .nx (if (f__law_due (gates, kinds, ps, txt) day).isSome = true then (cut day none (some (unO (f__law_due (gates, kinds, ps, txt) day)))) ++ (cut day (some ((unO (f__law_due (gates, kinds, ps, txt) day)) + (1 : Int))) none) else day) := by
      unfold f_law_st1
      show (if ((!(f__law_same (f_pace_fault (plantOf gates kinds ps) day) (f__law_due (gates, kinds, ps, txt) day))) || (!(decide (day = day)))) = true then _ else _) = _
      rw [c, if_neg Bool.false_ne_true]
      show (if (f__law_due (gates, kinds, ps, txt) day).isSome = true then _ else _) = _
      split <;> rfl
    have hlen : (cut day none (some (unO (f__law_due (gates, kinds, ps, txt) day)))).length + (cut day (some ((unO (f__law_due (gates, kinds, ps, txt) day)) + (1 : Int))) none).length ≤ 2 * B := by
      have h1 := cut_len day none (some (unO (f__law_due (gates, kinds, ps, txt) day)))
      have h2 := cut_len day (some ((unO (f__law_due (gates, kinds, ps, txt) day)) + (1 : Int))) none
      omega
    have ok : ok_law_st1 (gates, kinds, ps, txt) (plantOf gates kinds ps, (gates.length : Int)) day x := by
      unfold ok_law_st1
      refine ⟨due_ok V day (by omega) hg, ⟨⟨fun q hq => ?_, by show day.length < _; omega⟩, same_ok _ _, ?_, trivial⟩, trivial⟩
      · have := (V.po q hq).2.2.2
        exact ⟨by show 0 < q.2.2.2; omega, by show q.2.2.2 < _; omega⟩
      · show (if ((!(f__law_same (f_pace_fault (plantOf gates kinds ps) day) (f__law_due (gates, kinds, ps, txt) day))) || (!(decide (day = day)))) = true then True else _)
        rw [c, if_neg Bool.false_ne_true]
        refine ⟨?_, trivial⟩
        show (if (f__law_due (gates, kinds, ps, txt) day).isSome = true then _ else _)
        split
        · next h => exact ⟨h, h, by rw [sizeL]; exact Nat.le_trans hlen (by omega), trivial⟩
        · trivial
    have rc := turns_ok V d0 xs (if (f__law_due (gates, kinds, ps, txt) day).isSome = true then (cut day none (some (unO (f__law_due (gates, kinds, ps, txt) day)))) ++ (cut day (some ((unO (f__law_due (gates, kinds, ps, txt) day)) + (1 : Int))) none) else day) (2 * B) (by
        split
        · rw [List.length_append]; exact hlen
        · omega) hB (by
        intro z hz
        split at hz
        · rcases List.mem_append.mp hz with hz | hz
          · exact hg z (cut_mem _ _ _ z hz)
          · exact hg z (cut_mem _ _ _ z hz)
        · exact hg z hz)
    refine ⟨⟨ok, ?_⟩, ?_⟩
    · rw [st]; exact rc.1
    · rw [loopF_cons, st]; exact rc.2
end
theorem law_true (script : List Int) : m_law script fun b => b = true := by
  unfold m_law
  refine ⟨left_ok script 0 (Int.le_refl _), ?_⟩
  refine plant_of _ fun gates kinds ps V => ?_
  refine ⟨⟨V.ok_read, trivial⟩, ?_⟩
  show (fun (P : Int → Prop) => _) _
  rw [show f_read_plant (gates, kinds, ps, joinL (tl ("\n" : Str)) (rowsOf gates kinds ps)).2.2.2 = plantOf gates kinds ps from V.f_read]
  have hgl := V.gl
  have main : ∀ size : Int, 0 ≤ size → size ≤ 200 → (m__law_pick (gates.length : Int) fun (d18 : Int) => m__law_pick (3 : Int) fun (d26 : Int) => All [(atI [(1 : Int), (gates.length : Int), ((1 : Int) + d18)] d26).isSome = true] ∧ (m__law_day script (gates, kinds, ps, joinL (tl ("\n" : Str)) (rowsOf gates kinds ps)) size ((atI [(1 : Int), (gates.length : Int), ((1 : Int) + d18)] d26).getD default) fun (day : (List (Int × Tx × Tx × Tx))) => (fun (P : (List (Int × Tx × Tx × Tx)) → Prop) => (fun P => m__law_pick (3 : Int) fun (d29 : Int) => if (decide (d29 = (0 : Int))) = true then P (!(decide (day = ([] : (List (Int × Tx × Tx × Tx)))))) else P false) fun c => if c = true then
  (m__law_pick size fun (d34 : Int) => let at_ : Int := d34
  All [(atI day at_).isSome = true,
  (atI kinds (-(1 : Int))).isSome = true,
  (ixN day.length at_).isSome = true] ∧ P (let day : (List (Int × Tx × Tx × Tx)) := (setI day at_ ((((atI day at_).getD default).1, ((atI day at_).getD default).2.1).1, (((atI day at_).getD default).1, ((atI day at_).getD default).2.1).2, (((atI kinds (-(1 : Int))).getD default), (tl ("p" : Str))).1, (((atI kinds (-(1 : Int))).getD default), (tl ("p" : Str))).2))
  day))
  else
  (P (day))) fun (s32 : (List (Int × Tx × Tx × Tx))) => All [-(2 ^ 62) ≤ (3 : Int) ∧ (3 : Int) < 2 ^ 62,
  okF (ok_law_st1 (gates, kinds, ps, joinL (tl ("\n" : Str)) (rowsOf gates kinds ps)) (plantOf gates kinds ps, (gates.length : Int))) (f_law_st1 (gates, kinds, ps, joinL (tl ("\n" : Str)) (rowsOf gates kinds ps)) (plantOf gates kinds ps, (gates.length : Int)) day) (upI 0 ((3 : Int)).toNat) s32,
  ((loopF (f_law_st1 (gates, kinds, ps, joinL (tl ("\n" : Str)) (rowsOf gates kinds ps)) (plantOf gates kinds ps, (gates.length : Int)) day) (upI 0 ((3 : Int)).toNat) s32).on (fun (s35 : (List (Int × Tx × Tx × Tx))) => True) fun _ => True)] ∧ (((loopF (f_law_st1 (gates, kinds, ps, joinL (tl ("\n" : Str)) (rowsOf gates kinds ps)) (plantOf gates kinds ps, (gates.length : Int)) day) (upI 0 ((3 : Int)).toNat) s32).on (fun (s35 : (List (Int × Tx × Tx × Tx))) => true) fun r38 => r38)) = true)) := by
    intro size s0 s1
    refine pick_of (by omega) (by omega) fun d18 a0 a1 => ?_
    refine pick_of (by decide) (by decide) fun d26 b0 b1 => ?_
    obtain ⟨few, hf, hfm⟩ := atI_range [(1 : Int), (gates.length : Int), ((1 : Int) + d18)] d26 b0 b1
    have hfew : 1 ≤ few ∧ few ≤ gates.length := by
      simp only [List.mem_cons, List.not_mem_nil, or_false] at hfm
      rcases hfm with rfl | rfl | rfl <;> omega
    refine ⟨⟨by rw [hf]; rfl, trivial⟩, ?_⟩
    rw [hf]
    refine day_of V script size few s0 s1 hfew.1 hfew.2 _ fun day hdl hdg => ?_
    have fin : ∀ s32 : List (Int × Tx × Tx × Tx), s32.length ≤ 200 → (∀ x ∈ s32, x.2.1 ∈ gates) → All [-(2 ^ 62) ≤ (3 : Int) ∧ (3 : Int) < 2 ^ 62,
  okF (ok_law_st1 (gates, kinds, ps, joinL (tl ("\n" : Str)) (rowsOf gates kinds ps)) (plantOf gates kinds ps, (gates.length : Int))) (f_law_st1 (gates, kinds, ps, joinL (tl ("\n" : Str)) (rowsOf gates kinds ps)) (plantOf gates kinds ps, (gates.length : Int)) day) (upI 0 ((3 : Int)).toNat) s32,
  ((loopF (f_law_st1 (gates, kinds, ps, joinL (tl ("\n" : Str)) (rowsOf gates kinds ps)) (plantOf gates kinds ps, (gates.length : Int)) day) (upI 0 ((3 : Int)).toNat) s32).on (fun (s35 : (List (Int × Tx × Tx × Tx))) => True) fun _ => True)] ∧ (((loopF (f_law_st1 (gates, kinds, ps, joinL (tl ("\n" : Str)) (rowsOf gates kinds ps)) (plantOf gates kinds ps, (gates.length : Int)) day) (upI 0 ((3 : Int)).toNat) s32).on (fun (s35 : (List (Int × Tx × Tx × Tx))) => true) fun r38 => r38)) = true := by
      intro s32 hl hg
      have h3 : (upI 0 ((3 : Int)).toNat).length = 3 := upI_len _ _
      obtain ⟨k1, d, k2⟩ := turns_ok (txt := joinL (tl ("\n" : Str)) (rowsOf gates kinds ps)) V day (upI 0 ((3 : Int)).toNat) s32 200 hl (by rw [h3]; decide) hg
      rw [k2]
      exact ⟨⟨⟨by omega, by omega⟩, k1, trivial, trivial⟩, rfl⟩
    refine pick_of (by decide) (by decide) fun d29 e0 e1 => ?_
    have hd200 : day.length ≤ 200 := by omega
    have tail : ∀ c : Bool, (c = true → day ≠ []) → (if c = true then
  (m__law_pick size fun (d34 : Int) => All [(atI day d34).isSome = true,
  (atI kinds (-(1 : Int))).isSome = true,
  (ixN day.length d34).isSome = true] ∧ (fun (s32 : (List (Int × Tx × Tx × Tx))) => All [-(2 ^ 62) ≤ (3 : Int) ∧ (3 : Int) < 2 ^ 62,
  okF (ok_law_st1 (gates, kinds, ps, joinL (tl ("\n" : Str)) (rowsOf gates kinds ps)) (plantOf gates kinds ps, (gates.length : Int))) (f_law_st1 (gates, kinds, ps, joinL (tl ("\n" : Str)) (rowsOf gates kinds ps)) (plantOf gates kinds ps, (gates.length : Int)) day) (upI 0 ((3 : Int)).toNat) s32,
  ((loopF (f_law_st1 (gates, kinds, ps, joinL (tl ("\n" : Str)) (rowsOf gates kinds ps)) (plantOf gates kinds ps, (gates.length : Int)) day) (upI 0 ((3 : Int)).toNat) s32).on (fun (s35 : (List (Int × Tx × Tx × Tx))) => True) fun _ => True)] ∧ (((loopF (f_law_st1 (gates, kinds, ps, joinL (tl ("\n" : Str)) (rowsOf gates kinds ps)) (plantOf gates kinds ps, (gates.length : Int)) day) (upI 0 ((3 : Int)).toNat) s32).on (fun (s35 : (List (Int × Tx × Tx × Tx))) => true) fun r38 => r38)) = true) (setI day d34 (((atI day d34).getD default).1, ((atI day d34).getD default).2.1, ((atI kinds (-(1 : Int))).getD default), (tl ("p" : Str)))))
  else
  ((fun (s32 : (List (Int × Tx × Tx × Tx))) => All [-(2 ^ 62) ≤ (3 : Int) ∧ (3 : Int) < 2 ^ 62,
  okF (ok_law_st1 (gates, kinds, ps, joinL (tl ("\n" : Str)) (rowsOf gates kinds ps)) (plantOf gates kinds ps, (gates.length : Int))) (f_law_st1 (gates, kinds, ps, joinL (tl ("\n" : Str)) (rowsOf gates kinds ps)) (plantOf gates kinds ps, (gates.length : Int)) day) (upI 0 ((3 : Int)).toNat) s32,
  ((loopF (f_law_st1 (gates, kinds, ps, joinL (tl ("\n" : Str)) (rowsOf gates kinds ps)) (plantOf gates kinds ps, (gates.length : Int)) day) (upI 0 ((3 : Int)).toNat) s32).on (fun (s35 : (List (Int × Tx × Tx × Tx))) => True) fun _ => True)] ∧ (((loopF (f_law_st1 (gates, kinds, ps, joinL (tl ("\n" : Str)) (rowsOf gates kinds ps)) (plantOf gates kinds ps, (gates.length : Int)) day) (upI 0 ((3 : Int)).toNat) s32).on (fun (s35 : (List (Int × Tx × Tx × Tx))) => true) fun r38 => r38)) = true) day)) := by
      intro c hc
      cases c with
      | false => rw [if_neg Bool.false_ne_true]; exact fin day hd200 hdg
      | true =>
        rw [if_pos rfl]
        have hne := hc rfl
        have hpos : 0 < day.length := List.length_pos_iff.mpr hne
        refine pick_of (by omega) (by omega) fun d34 g0 g1 => ?_
        obtain ⟨y, hy, hym⟩ := atI_range day d34 g0 (by omega)
        obtain ⟨kd, hkd, _⟩ : ∃ kd, atI kinds (-1) = some kd ∧ True := by
          have hkl := V.kl
          unfold atI ixN
          rw [if_neg (by omega), if_pos (by omega)]
          have : (-1 + (kinds.length : Int)).toNat < kinds.length := by omega
          exact ⟨_, List.getElem?_eq_getElem this, trivial⟩
        have hix : ∃ k, ixN day.length d34 = some k := by
          unfold ixN
          rw [if_pos g0, if_pos (by omega)]
          exact ⟨_, rfl⟩
        obtain ⟨ix, hix⟩ := hix
        refine ⟨⟨by rw [hy]; rfl, by rw [hkd]; rfl, by rw [hix]; rfl, trivial⟩, ?_⟩
        refine fin _ (by unfold setI; rw [List.length_set]; exact hd200) fun z hz => ?_
        unfold setI at hz
        rcases List.mem_or_eq_of_mem_set hz with hz | hz
        · exact hdg z hz
        · rw [hz, hy]; exact hdg y hym
    by_cases h29 : d29 = (0 : Int)
    · rw [if_pos (decide_eq_true h29)]
      exact tail (!(decide (day = ([] : (List (Int × Tx × Tx × Tx)))))) (fun z => by simpa using z)
    · rw [if_neg (by simpa using h29)]
      exact tail false (fun z => nomatch z)
  refine pick_of (by decide) (by decide) fun d7 a0 a1 => ?_
  show if decide (d7 = (0 : Int)) = true then _ else _
  by_cases h7 : d7 = (0 : Int)
  · rw [if_pos (decide_eq_true h7)]
    refine pick_of (by decide) (by decide) fun d11 b0 b1 => ?_
    exact main ((150 : Int) + d11) (by omega) (by omega)
  · rw [if_neg (by simpa using h7)]
    refine pick_of (by decide) (by decide) fun d15 b0 b1 => ?_
    exact main d15 (by omega) (by omega)
end K67
set_option Elab.async false
set_option linter.all false
set_option maxRecDepth 100000
set_option maxHeartbeats 0
namespace K67
open PySem PySem.Spec PyProof.Rows L2 TL
section
variable {h : Heap} {w : World} {K : PySem.W.Frag} {mg : Str → Option Value}
theorem bl_of (X : K.In h) (G : h.Ns mainGlobals mg) (c : He.SaysD Hd.fa Hd.fn K) : Bl mg where
  abs := He.free_ok X G (c.fact 58 (f := .free "abs") rfl)
  all := He.free_ok X G (c.fact 59 (f := .free "all") rfl)
  any := He.free_ok X G (c.fact 60 (f := .free "any") rfl)
  bool := He.free_ok X G (c.fact 61 (f := .free "bool") rfl)
  dict := He.free_ok X G (c.fact 62 (f := .free "dict") rfl)
  enumerate := He.free_ok X G (c.fact 63 (f := .free "enumerate") rfl)
  int := He.free_ok X G (c.fact 64 (f := .free "int") rfl)
  isinstance := He.free_ok X G (c.fact 65 (f := .free "isinstance") rfl)
  len := He.free_ok X G (c.fact 66 (f := .free "len") rfl)
  list := He.free_ok X G (c.fact 67 (f := .free "list") rfl)
  max := He.free_ok X G (c.fact 68 (f := .free "max") rfl)
  min := He.free_ok X G (c.fact 69 (f := .free "min") rfl)
  range := He.free_ok X G (c.fact 70 (f := .free "range") rfl)
  str := He.free_ok X G (c.fact 74 (f := .free "str") rfl)
  sum := He.free_ok X G (c.fact 75 (f := .free "sum") rfl)
  tuple := He.free_ok X G (c.fact 76 (f := .free "tuple") rfl)
  zip := He.free_ok X G (c.fact 77 (f := .free "zip") rfl)
  g_LETTERS := He.str_ok X G (c.fact 7 (f := .str "LETTERS" "abcdefghijklmnopqrstuvwxyz") rfl)
  g_FIGURES := He.str_ok X G (c.fact 8 (f := .str "FIGURES" "0123456789") rfl)
theorem at_is_too_fast (X : K.In h) (G : h.Ns mainGlobals mg) (c : He.SaysD Hd.fa Hd.fn K) : At K mg "is_too_fast" "is_too_fast" s_is_too_fast := by
  obtain ⟨fd, F⟩ := c.def_ 0 (d := Hd.d_is_too_fast) rfl
  exact ⟨_, fd, F, He.glo_ok X G (c.fact 0 (f := .glo "is_too_fast") rfl)⟩
theorem at_pace_fault (X : K.In h) (G : h.Ns mainGlobals mg) (c : He.SaysD Hd.fa Hd.fn K) : At K mg "pace_fault" "pace_fault" s_pace_fault := by
  obtain ⟨fd, F⟩ := c.def_ 1 (d := Hd.d_pace_fault) rfl
  exact ⟨_, fd, F, He.glo_ok X G (c.fact 1 (f := .glo "pace_fault") rfl)⟩
theorem at_words_of (X : K.In h) (G : h.Ns mainGlobals mg) (c : He.SaysD Hd.fa Hd.fn K) : At K mg "words_of" "words_of" s_words_of := by
  obtain ⟨fd, F⟩ := c.def_ 4 (d := Hd.d_words_of) rfl
  exact ⟨_, fd, F, He.glo_ok X G (c.fact 9 (f := .glo "words_of") rfl)⟩
theorem at_is_name (X : K.In h) (G : h.Ns mainGlobals mg) (c : He.SaysD Hd.fa Hd.fn K) : At K mg "is_name" "is_name" s_is_name := by
  obtain ⟨fd, F⟩ := c.def_ 5 (d := Hd.d_is_name) rfl
  exact ⟨_, fd, F, He.glo_ok X G (c.fact 10 (f := .glo "is_name") rfl)⟩
theorem at_number_in (X : K.In h) (G : h.Ns mainGlobals mg) (c : He.SaysD Hd.fa Hd.fn K) : At K mg "number_in" "number_in" s_number_in := by
  obtain ⟨fd, F⟩ := c.def_ 6 (d := Hd.d_number_in) rfl
  exact ⟨_, fd, F, He.glo_ok X G (c.fact 11 (f := .glo "number_in") rfl)⟩
theorem at_positive_in (X : K.In h) (G : h.Ns mainGlobals mg) (c : He.SaysD Hd.fa Hd.fn K) : At K mg "positive_in" "positive_in" s_positive_in := by
  obtain ⟨fd, F⟩ := c.def_ 7 (d := Hd.d_positive_in) rfl
  exact ⟨_, fd, F, He.glo_ok X G (c.fact 12 (f := .glo "positive_in") rfl)⟩
theorem at_numbers_in (X : K.In h) (G : h.Ns mainGlobals mg) (c : He.SaysD Hd.fa Hd.fn K) : At K mg "numbers_in" "numbers_in" s_numbers_in := by
  obtain ⟨fd, F⟩ := c.def_ 8 (d := Hd.d_numbers_in) rfl
  exact ⟨_, fd, F, He.glo_ok X G (c.fact 13 (f := .glo "numbers_in") rfl)⟩
theorem at_has_place (X : K.In h) (G : h.Ns mainGlobals mg) (c : He.SaysD Hd.fa Hd.fn K) : At K mg "has_place" "has_place" s_has_place := by
  obtain ⟨fd, F⟩ := c.def_ 12 (d := Hd.d_has_place) rfl
  exact ⟨_, fd, F, He.glo_ok X G (c.fact 28 (f := .glo "has_place") rfl)⟩
theorem at_first_due (X : K.In h) (G : h.Ns mainGlobals mg) (c : He.SaysD Hd.fa Hd.fn K) : At K mg "first_due" "first_due" s_first_due := by
  obtain ⟨fd, F⟩ := c.def_ 13 (d := Hd.d_first_due) rfl
  exact ⟨_, fd, F, He.glo_ok X G (c.fact 29 (f := .glo "first_due") rfl)⟩
theorem at_kind_row (X : K.In h) (G : h.Ns mainGlobals mg) (c : He.SaysD Hd.fa Hd.fn K) : At K mg "kind_row" "kind_row" s_kind_row := by
  obtain ⟨fd, F⟩ := c.def_ 14 (d := Hd.d_kind_row) rfl
  exact ⟨_, fd, F, He.glo_ok X G (c.fact 30 (f := .glo "kind_row") rfl)⟩
theorem at_gate_row (X : K.In h) (G : h.Ns mainGlobals mg) (c : He.SaysD Hd.fa Hd.fn K) : At K mg "gate_row" "gate_row" s_gate_row := by
  obtain ⟨fd, F⟩ := c.def_ 15 (d := Hd.d_gate_row) rfl
  exact ⟨_, fd, F, He.glo_ok X G (c.fact 31 (f := .glo "gate_row") rfl)⟩
theorem at_pace_row (X : K.In h) (G : h.Ns mainGlobals mg) (c : He.SaysD Hd.fa Hd.fn K) : At K mg "pace_row" "pace_row" s_pace_row := by
  obtain ⟨fd, F⟩ := c.def_ 26 (d := Hd.d_pace_row) rfl
  exact ⟨_, fd, F, He.glo_ok X G (c.fact 42 (f := .glo "pace_row") rfl)⟩
theorem at_plant_row (X : K.In h) (G : h.Ns mainGlobals mg) (c : He.SaysD Hd.fa Hd.fn K) : At K mg "plant_row" "plant_row" s_plant_row := by
  obtain ⟨fd, F⟩ := c.def_ 27 (d := Hd.d_plant_row) rfl
  exact ⟨_, fd, F, He.glo_ok X G (c.fact 43 (f := .glo "plant_row") rfl)⟩
theorem at_read_plant (X : K.In h) (G : h.Ns mainGlobals mg) (c : He.SaysD Hd.fa Hd.fn K) : At K mg "read_plant" "read_plant" s_read_plant := by
  obtain ⟨fd, F⟩ := c.def_ 28 (d := Hd.d_read_plant) rfl
  exact ⟨_, fd, F, He.glo_ok X G (c.fact 44 (f := .glo "read_plant") rfl)⟩
theorem at__law_mix (X : K.In h) (G : h.Ns mainGlobals mg) (c : He.SaysD Hd.fa Hd.fn K) : At K mg "_law_mix" "_law_mix" s__law_mix := by
  obtain ⟨fd, F⟩ := c.def_ 29 (d := Hd.d__law_mix) rfl
  exact ⟨_, fd, F, He.glo_ok X G (c.fact 45 (f := .glo "_law_mix") rfl)⟩
theorem at__law_pick (X : K.In h) (G : h.Ns mainGlobals mg) (c : He.SaysD Hd.fa Hd.fn K) : At K mg "_law_pick" "_law_pick" s__law_pick := by
  obtain ⟨fd, F⟩ := c.def_ 31 (d := Hd.d__law_pick) rfl
  exact ⟨_, fd, F, He.glo_ok X G (c.fact 47 (f := .glo "_law_pick") rfl)⟩
theorem at__law_left (X : K.In h) (G : h.Ns mainGlobals mg) (c : He.SaysD Hd.fa Hd.fn K) : At K mg "_law_left" "_law_left" s__law_left := by
  obtain ⟨fd, F⟩ := c.def_ 30 (d := Hd.d__law_left) rfl
  exact ⟨_, fd, F, He.glo_ok X G (c.fact 46 (f := .glo "_law_left") rfl)⟩
theorem at__law_spelt (X : K.In h) (G : h.Ns mainGlobals mg) (c : He.SaysD Hd.fa Hd.fn K) : At K mg "_law_spelt" "_law_spelt" s__law_spelt := by
  obtain ⟨fd, F⟩ := c.def_ 32 (d := Hd.d__law_spelt) rfl
  exact ⟨_, fd, F, He.glo_ok X G (c.fact 48 (f := .glo "_law_spelt") rfl)⟩
theorem at__law_spelt_all (X : K.In h) (G : h.Ns mainGlobals mg) (c : He.SaysD Hd.fa Hd.fn K) : At K mg "_law_spelt_all" "_law_spelt_all" s__law_spelt_all := by
  obtain ⟨fd, F⟩ := c.def_ 33 (d := Hd.d__law_spelt_all) rfl
  exact ⟨_, fd, F, He.glo_ok X G (c.fact 49 (f := .glo "_law_spelt_all") rfl)⟩
theorem at__law_same (X : K.In h) (G : h.Ns mainGlobals mg) (c : He.SaysD Hd.fa Hd.fn K) : At K mg "_law_same" "_law_same" s__law_same := by
  obtain ⟨fd, F⟩ := c.def_ 34 (d := Hd.d__law_same) rfl
  exact ⟨_, fd, F, He.glo_ok X G (c.fact 50 (f := .glo "_law_same") rfl)⟩
theorem at__law_plant (X : K.In h) (G : h.Ns mainGlobals mg) (c : He.SaysD Hd.fa Hd.fn K) : At K mg "_law_plant" "_law_plant" s__law_plant := by
  obtain ⟨fd, F⟩ := c.def_ 35 (d := Hd.d__law_plant) rfl
  exact ⟨_, fd, F, He.glo_ok X G (c.fact 51 (f := .glo "_law_plant") rfl)⟩
theorem at__law_earliest (X : K.In h) (G : h.Ns mainGlobals mg) (c : He.SaysD Hd.fa Hd.fn K) : At K mg "_law_earliest" "_law_earliest" s__law_earliest := by
  obtain ⟨fd, F⟩ := c.def_ 36 (d := Hd.d__law_earliest) rfl
  exact ⟨_, fd, F, He.glo_ok X G (c.fact 52 (f := .glo "_law_earliest") rfl)⟩
theorem at__law_next_gate (X : K.In h) (G : h.Ns mainGlobals mg) (c : He.SaysD Hd.fa Hd.fn K) : At K mg "_law_next_gate" "_law_next_gate" s__law_next_gate := by
  obtain ⟨fd, F⟩ := c.def_ 37 (d := Hd.d__law_next_gate) rfl
  exact ⟨_, fd, F, He.glo_ok X G (c.fact 53 (f := .glo "_law_next_gate") rfl)⟩
theorem at__law_day (X : K.In h) (G : h.Ns mainGlobals mg) (c : He.SaysD Hd.fa Hd.fn K) : At K mg "_law_day" "_law_day" s__law_day := by
  obtain ⟨fd, F⟩ := c.def_ 38 (d := Hd.d__law_day) rfl
  exact ⟨_, fd, F, He.glo_ok X G (c.fact 54 (f := .glo "_law_day") rfl)⟩
theorem at__law_due (X : K.In h) (G : h.Ns mainGlobals mg) (c : He.SaysD Hd.fa Hd.fn K) : At K mg "_law_due" "_law_due" s__law_due := by
  obtain ⟨fd, F⟩ := c.def_ 39 (d := Hd.d__law_due) rfl
  exact ⟨_, fd, F, He.glo_ok X G (c.fact 55 (f := .glo "_law_due") rfl)⟩
theorem at_Plant (X : K.In h) (G : h.Ns mainGlobals mg) (c : He.SaysD Hd.fa Hd.fn K) : AtI K mg "Plant" (He.ga K "Plant") "Plant.__init__" s_Plant___init__ := by
  obtain ⟨fd, F⟩ := c.def_ 9 (d := Hd.d_Plant___init__) rfl
  exact ⟨_, fd, F, He.mkr_ok (c.fact 18 (f := .mkr "Plant") rfl), He.glo_ok X G (c.fact 16 (f := .glo "Plant") rfl)⟩
theorem ks_of (X : K.In h) (G : h.Ns mainGlobals mg) (c : He.SaysD Hd.fa Hd.fn K) : Ks K mg (He.ga K "Plant") where
  c_Plant := He.cls_ok (c.fact 17 (f := .cls "Plant") rfl)
  g_Plant := He.glo_ok X G (c.fact 16 (f := .glo "Plant") rfl)
  n_Plant_kinds := He.noat_ok (c.fact 19 (f := .noat "Plant" "kinds") rfl)
  n_Plant_gates := He.noat_ok (c.fact 20 (f := .noat "Plant" "gates") rfl)
  n_Plant_lines := He.noat_ok (c.fact 21 (f := .noat "Plant" "lines") rfl)
  n_Plant_desks := He.noat_ok (c.fact 22 (f := .noat "Plant" "desks") rfl)
  n_Plant_times := He.noat_ok (c.fact 23 (f := .noat "Plant" "times") rfl)
  n_Plant_hours := He.noat_ok (c.fact 24 (f := .noat "Plant" "hours") rfl)
  n_Plant_paces := He.noat_ok (c.fact 25 (f := .noat "Plant" "paces") rfl)
theorem facts {P : Program} {f : Addr} (X : K.In h) (G : h.Ns mainGlobals mg) (hfa : mg ("law" : Str) = some (.ref f)) (c : He.SaysD Hd.fa Hd.fn K) :
    ∃ fd : FuncData, (∀ (s : Shared) (v : Value), BindsTo s fd ⟨[v], []⟩ [("script", v)]) ∧ ∀ base : Heap, K.In base → base.Ns mainGlobals mg → FnOk P w K mg base CX0 7 f fd ["script"] (spP K 1 (2 ^ 140) S_law) := by
  obtain ⟨fd, F⟩ := c.def_ 40 (d := Hd.d_law) rfl
  have e := hfa.symm.trans (He.glo_ok X G (c.fact 56 (f := .glo "law") rfl))
  cases e
  have b := FunD.bindsA (ps := ["script"]) F fun _ _ _ _ _ _ us hl => match us, hl with | [_], _ => rfl
  refine ⟨fd, fun s v => b s [v] rfl, fun base _ _ => ?_⟩
  have B := bl_of X G c
  have KS := ks_of X G c
  have F_words_of := fn_words_of (P := P) (w := w) (base := base) (at_words_of X G c) B
  have F_is_name := fn_is_name (P := P) (w := w) (base := base) (at_is_name X G c) B
  have F_number_in := fn_number_in (P := P) (w := w) (base := base) (at_number_in X G c) B
  have F_positive_in := fn_positive_in (P := P) (w := w) (base := base) (at_positive_in X G c) B F_number_in
  have F_numbers_in := fn_numbers_in (P := P) (w := w) (base := base) (at_numbers_in X G c) B F_positive_in
  have F_has_place := fn_has_place (P := P) (w := w) (base := base) (at_has_place X G c) B KS
  have F_first_due := fn_first_due (P := P) (w := w) (base := base) (at_first_due X G c) B
  have F_kind_row := fn_kind_row (P := P) (w := w) (base := base) (at_kind_row X G c) B KS F_positive_in F_is_name
  have F_gate_row := fn_gate_row (P := P) (w := w) (base := base) (at_gate_row X G c) B KS F_has_place F_is_name
  have F_pace_row := fn_pace_row (P := P) (w := w) (base := base) (at_pace_row X G c) B KS F_first_due F_numbers_in F_is_name
  have C_Plant := mk_Plant (P := P) (w := w) (base := base) (at_Plant X G c) B KS
  have F_plant_row := fn_plant_row (P := P) (w := w) (base := base) (at_plant_row X G c) B KS F_pace_row F_gate_row F_kind_row
  have F_read_plant0 := fn_read_plant (P := P) (w := w) (base := base) (at_read_plant X G c) B KS F_words_of F_plant_row C_Plant
  have F_is_too_fast := fn_is_too_fast (P := P) (w := w) (base := base) (at_is_too_fast X G c) B
  have F_pace_fault0 := fn_pace_fault (P := P) (w := w) (base := base) (at_pace_fault X G c) B KS F_is_too_fast
  have F__law_mix := fn__law_mix (P := P) (w := w) (base := base) (at__law_mix X G c) B
  have F__law_pick0 := fnM__law_pick (P := P) (w := w) (base := base) (at__law_pick X G c) B F__law_mix
  have F__law_pick := fn__law_pickT F__law_pick0
  have F__law_left0 := fn__law_left (P := P) (w := w) (base := base) (at__law_left X G c) B
  have F__law_left := fn__law_leftR F__law_left0
  have F_read_plant := fn_read_plantT F_read_plant0
  have F_pace_fault := fn_pace_faultT F_pace_fault0
  have F__law_spelt := fn__law_spelt (P := P) (w := w) (base := base) (at__law_spelt X G c) B F__law_pick
  have F__law_spelt_all := fn__law_spelt_all (P := P) (w := w) (base := base) (at__law_spelt_all X G c) B F__law_spelt
  have F__law_same := fn__law_same (P := P) (w := w) (base := base) (at__law_same X G c) B
  have F__law_plant := fn__law_plant (P := P) (w := w) (base := base) (at__law_plant X G c) B F__law_pick F__law_spelt_all
  have F__law_earliest := fn__law_earliest (P := P) (w := w) (base := base) (at__law_earliest X G c) B
  have F__law_next_gate := fn__law_next_gate (P := P) (w := w) (base := base) (at__law_next_gate X G c) B F__law_pick F__law_earliest
  have F__law_day := fn__law_day (P := P) (w := w) (base := base) (at__law_day X G c) B F__law_left F__law_next_gate F__law_pick
  have F__law_due := fn__law_due (P := P) (w := w) (base := base) (at__law_due X G c) B
  exact fn_law (P := P) (w := w) (base := base) F B F__law_left F__law_plant F_read_plant F__law_pick F__law_due F__law_same F_pace_fault F__law_day
end
end K67
open PySem PySem.W PySem.Calls PyProof.Rows
theorem PySem.Challenge.cw_mergeline_k67_paces_of_two_hundred_goods_holds : PySem.Challenge.rw_mergeline_k67_paces_of_two_hundred_goods.Holds := by
  w_on; o_law
  refine HandSHeadRun.head_any (r := OpenLaw.row PySem.Challenge.rw_mergeline_k67_paces_of_two_hundred_goods) (q := view (OpenLaw.row PySem.Challenge.rw_mergeline_k67_paces_of_two_hundred_goods).prog [51]) (H := Hd.hk) (ob := Hd.ob) (M := 6000) (loose := Hd.loose) (d := HandSHeadRun.topDef (OpenLaw.row PySem.Challenge.rw_mergeline_k67_paces_of_two_hundred_goods).prog 51) (kwd := []) Hd.ob_eq
    (by kernel_rfl) (fun s => by kernel_rfl) Hd.run (by kernel_rfl) (by kernel_rfl) (by kernel_rfl) (by rfl) (by first | assumption | decide +kernel) (by decide +kernel) ⟨rfl, rfl, rfl, rfl, rfl, by decide +kernel⟩ ?hw ?hc
  case hw => w_witness2
  case hc =>
    refine L2.walk_ofE (l := PySem.Challenge.rw_mergeline_k67_paces_of_two_hundred_goods) (n := 63) (k := 7) (x := "script") (CX := L2.CX0) rfl (by decide) (by kernel_rfl) ⟨rfl, by decide, by decide⟩ ?F (fun _ _ _ _ z => z)
    intro w mg fa h Y G hmg0
    obtain ⟨K, KX, c⟩ := Y
    have hmg : mg ("law" : PySem.Str) = some (.ref fa) := by
      have e : (HandSHeadRun.topDef (OpenLaw.row PySem.Challenge.rw_mergeline_k67_paces_of_two_hundred_goods).prog 51).name = ("law" : PySem.Str) := by kernel_rfl
      rw [← e]
      exact hmg0
    obtain ⟨fd, hb, hF⟩ := K67.facts (P := (PySem.Challenge.rw_mergeline_k67_paces_of_two_hundred_goods).prog) (w := w) KX G hmg c
    exact ⟨K, fd, _, KX, hb, fun H a ns hl _ hS => TL.law_entry hS (by unfold TL.LIM; decide +kernel) (⟨ns, _, rfl, fun r hr => by rw [hr], K67.law_true ns⟩), hF⟩
