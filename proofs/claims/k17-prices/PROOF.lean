import PyProof.Rows.All
import Wide.All
import OpenK.AllK
import Wide.FinOn
import HandS.ForMost
import HandS.ForExc
import HandS.EndTab
import HandS.Wide
import HandS.TupAny
import HandS.IsInst
import HandS.Gcd
import HandS.CallSlots
import HandS.Flow
import HandS.Style
import HandS.Deep
import HandS.Small
import HandS.Iter
import HandS.WordsExc
import HandS.Defaults
import HandS.Dict
import HandS.ExcIs
import HandS.Comp
import PyProof.ReprRoads
import HandS.Lambda
import PySem.Challenge.RW_hitclocks_k17_prices
set_option Elab.async false
set_option linter.all false
set_option maxRecDepth 100000
set_option maxHeartbeats 4000000


/-! Values as plain data; the store of what may change; how an abstract heap holds both. -/
namespace DL
open PySem PySem.Spec PyProof.Rows L2

/-- a value as data; own n: the changing object of the label n -/
inductive D where
  | non | bl (b : Bool) | int (i : Int) | str (x : Str) | tup (xs : List D) | lst (xs : List D) | flst (xs : List D)
  | dic (ks : List Key) (vs : List D) | obj (c : Nat) (fs : List Str) (vs : List D) | exc (c : Nat) (fs : List Str) (vs : List D) | own (n : Nat)
  deriving Inhabited
/-- what a changing object holds -/
inductive MO where
  | lst (xs : List D) | dic (ks : List Key) (vs : List D) | dit (ks : List (List Key)) (vs : List D) | ins (c : Nat) (fs : List Str) (vs : List D)
  deriving Inhabited
abbrev Sto := List MO
abbrev Env := List (Option D)
/-- what is fixed through a law: the written part, the classes by number, the code tables -/
structure Cfg where
  K : PySem.W.Frag
  cls : List Addr
  exs : List Addr
  T : List (Addr × Str)
def KTup (K : PySem.W.Frag) (a : Addr) (xs : List V) : Prop := ∃ (o : Obj) (its : Array Value) (n : Nat), K.lookup a = some o ∧ o.cls = .type "tuple" ∧ o.data = .seq its n ∧ its.size ≤ sizeLine ∧ Vals xs its.toList
def KLst (K : PySem.W.Frag) (a : Addr) (xs : List V) : Prop := ∃ (o : Obj) (its : Array Value) (n : Nat), K.lookup a = some o ∧ o.cls = .type "list" ∧ o.dict = none ∧ o.data = .seq its n ∧ its.size ≤ sizeLine ∧ Vals xs its.toList
/-- a caught exception at a -/
def ExH (cls : Value) (d : Option Addr) (a : Addr) : HO := .ext fun h => ∃ (oe : Obj) (vs : Array Value), h.get? a = some oe ∧ Zc cls d oe ∧ oe.data = .fields vs
/-- the changing objects: lb by their labels; av: all that no data but a label leads to -/
structure Th where
  av : List Addr
  lb : List Addr
  sub : ∀ a ∈ lb, a ∈ av
/-- .. with one more label; with one more that is hidden; and shown again -/
def Th.own (θ : Th) (p : Addr) : Th := ⟨p :: θ.av, θ.lb ++ [p], fun a h => by
  rcases List.mem_append.mp h with h | h
  · exact List.mem_cons_of_mem _ (θ.sub a h)
  · rw [List.mem_singleton.mp h]; exact List.mem_cons_self⟩
def Th.hid (θ : Th) (p : Addr) : Th := ⟨p :: θ.av, θ.lb, fun a h => List.mem_cons_of_mem _ (θ.sub a h)⟩
def Th.unh (θ : Th) (p : Addr) : Th := ⟨θ.av.filter fun a => decide (a ≠ p) || decide (a ∈ θ.lb), θ.lb, fun a h => List.mem_filter.mpr ⟨θ.sub a h, by simp [h]⟩⟩
mutual
inductive Rep (G : Cfg) (H : Hp) (θ : Th) : V → D → Prop
  | non : Rep G H θ .non .non
  | bl (b : Bool) : Rep G H θ (.bl b) (.bl b)
  | int (i : Int) : Rep G H θ (.int i) (.int i)
  | str (x : Str) : Rep G H θ (.str x) (.str x)
  | tup {a : Addr} {xs : List V} {ds : List D} (h : Rd H a (.tup xs)) (n : a ∉ θ.av) (r : Reps G H θ xs ds) : Rep G H θ (.ref a) (.tup ds)
  | ktup {a : Addr} {xs : List V} {ds : List D} (h : KTup G.K a xs) (r : Reps G H θ xs ds) : Rep G H θ (.ref a) (.tup ds)
  | lst {a : Addr} {xs : List V} {ds : List D} (h : H a = some (.lst xs)) (n : a ∉ θ.av) (r : Reps G H θ xs ds) : Rep G H θ (.ref a) (.lst ds)
  | flst {a : Addr} {xs : List V} {ds : List D} (h : Rd H a (.lst xs)) (n : a ∉ θ.av) (r : Reps G H θ xs ds) : Rep G H θ (.ref a) (.flst ds)
  | klst {a : Addr} {xs : List V} {ds : List D} (h : KLst G.K a xs) (r : Reps G H θ xs ds) : Rep G H θ (.ref a) (.flst ds)
  | dic {a : Addr} {kvs : List (Key × V)} {ks : List Key} {ds : List D} (h : H a = some (.dK kvs)) (n : a ∉ θ.av) (hk : kvs.map (·.1) = ks) (r : Reps G H θ (kvs.map (·.2)) ds) : Rep G H θ (.ref a) (.dic ks ds)
  | obj {a C dx : Addr} {fv : List (Str × V)} {c : Nat} {fs : List Str} {ds : List D} (hc : G.cls[c]? = some C) (h : H a = some (.ins C dx fv)) (n : a ∉ θ.av) (hk : fv.map (·.1) = fs) (r : Reps G H θ (fv.map (·.2)) ds) : Rep G H θ (.ref a) (.obj c fs ds)
  | exc0 {a C : Addr} {c : Nat} (hc : G.exs[c]? = some C) (h : H a = some (ExH (.ref C) none a)) (n : a ∉ θ.av) : Rep G H θ (.ref a) (.exc c [] [])
  | exc1 {a C dd : Addr} {fv : List (Str × V)} {c : Nat} {fs : List Str} {ds : List D} (hc : G.exs[c]? = some C) (h : H a = some (ExH (.ref C) (some dd) a)) (n : a ∉ θ.av) (hd : H dd = some (.xd fv)) (nd : dd ∉ θ.av) (hk : fv.map (·.1) = fs) (r : Reps G H θ (fv.map (·.2)) ds) (ne : fs ≠ []) : Rep G H θ (.ref a) (.exc c fs ds)
  | own {a : Addr} {n : Nat} (h : θ.lb[n]? = some a) : Rep G H θ (.ref a) (.own n)
inductive Reps (G : Cfg) (H : Hp) (θ : Th) : List V → List D → Prop
  | nil : Reps G H θ [] []
  | cons {v : V} {vs : List V} {d : D} {ds : List D} (h : Rep G H θ v d) (t : Reps G H θ vs ds) : Reps G H θ (v :: vs) (d :: ds)
end
/-- all but the changing objects (and the tables) stays -/
structure Ext (H : Hp) (θ : Th) (H' : Hp) (θ' : Th) : Prop where
  pre : θ.lb <+: θ'.lb
  sub : ∀ a ∈ θ.av, a ∈ θ'.av
  keep : ∀ b o, H b = some o → b ∉ θ.lb → (∀ ps, o ≠ .tbl ps) → H' b = some o
  new : ∀ b ∈ θ'.av, b ∉ θ.av → ∀ o, H b = some o → ∃ ps, o = .tbl ps
  newl : ∀ b ∈ θ'.lb, b ∉ θ.lb → ∀ o, H b = some o → ∃ ps, o = .tbl ps
section
variable {G : Cfg} {H H' H1 H2 : Hp} {θ θ' θ1 θ2 : Th} {a b p : Addr} {o : HO}
theorem Th.nl (h : a ∉ θ.av) : a ∉ θ.lb := fun z => h (θ.sub a z)
theorem Ext.refl (H : Hp) (θ : Th) : Ext H θ H θ := ⟨⟨[], by simp⟩, fun _ h => h, fun _ _ h _ _ => h, fun b h n => absurd h n, fun b h n => absurd h n⟩
theorem Ext.out (E : Ext H θ H' θ') (h : H a = some o) (n : a ∉ θ.av) (t : ∀ ps, o ≠ .tbl ps) : a ∉ θ'.av := fun m => by
  obtain ⟨ps, z⟩ := E.new a m n o h
  exact t ps z
theorem Ext.outl (E : Ext H θ H' θ') (h : H a = some o) (n : a ∉ θ.lb) (t : ∀ ps, o ≠ .tbl ps) : a ∉ θ'.lb := fun m => by
  obtain ⟨ps, z⟩ := E.newl a m n o h
  exact t ps z
theorem Ext.trans (E : Ext H θ H1 θ1) (F : Ext H1 θ1 H2 θ2) : Ext H θ H2 θ2 where
  pre := E.pre.trans F.pre
  sub := fun a h => F.sub a (E.sub a h)
  keep := fun b o h n t => F.keep b o (E.keep b o h n t) (E.outl h n t) t
  new := fun b m n o h => by
    by_cases t : ∃ ps, o = .tbl ps
    · exact t
    · have t' : ∀ ps, o ≠ .tbl ps := fun ps e => t ⟨ps, e⟩
      by_cases h1 : b ∈ θ1.av
      · exact E.new b h1 n o h
      · exact F.new b m h1 o (E.keep b o h (Th.nl n) t')
  newl := fun b m n o h => by
    by_cases t : ∃ ps, o = .tbl ps
    · exact t
    · have t' : ∀ ps, o ≠ .tbl ps := fun ps e => t ⟨ps, e⟩
      by_cases h1 : b ∈ θ1.lb
      · exact E.newl b h1 n o h
      · exact F.newl b m h1 o (E.keep b o h n t')
theorem Ext.alloc (hp : H p = none) (o : HO) : Ext H θ (upd H p o) θ :=
  ⟨⟨[], by simp⟩, fun _ h => h, fun b u h _ _ => by rw [upd_ne (ne_of_none h hp)]; exact h, fun b h n => absurd h n, fun b h n => absurd h n⟩
theorem Ext.allocOwn (hp : H p = none) (o : HO) : Ext H θ (upd H p o) (θ.own p) :=
  ⟨⟨[p], rfl⟩, fun _ h => List.mem_cons_of_mem _ h, fun b u h _ _ => by rw [upd_ne (ne_of_none h hp)]; exact h, fun b h n u e => by
    rcases List.mem_cons.mp h with z | h
    · rw [z, hp] at e
      cases e
    · exact absurd h n, fun b h n u e => by
    rcases List.mem_append.mp h with h | h
    · exact absurd h n
    · have z : b = p := by simpa using h
      rw [z, hp] at e
      cases e⟩
theorem Ext.allocHid (hp : H p = none) (o : HO) : Ext H θ (upd H p o) (θ.hid p) :=
  ⟨⟨[], by simp [Th.hid]⟩, fun _ h => List.mem_cons_of_mem _ h, fun b u h _ _ => by rw [upd_ne (ne_of_none h hp)]; exact h, fun b h n u e => by
    rcases List.mem_cons.mp h with z | h
    · rw [z, hp] at e
      cases e
    · exact absurd h n, fun b h n => absurd h n⟩
theorem Ext.write (ha : a ∈ θ.lb) (o : HO) : Ext H θ (upd H a o) θ :=
  ⟨⟨[], by simp⟩, fun _ h => h, fun b u h n _ => by rw [upd_ne (fun z => n (by rw [z]; exact ha))]; exact h, fun b h n => absurd h n, fun b h n => absurd h n⟩
theorem rd_ext (E : Ext H θ H' θ') {u : HO} (h : Rd H a u) (n : a ∉ θ.av) (t : ∀ ps, u ≠ .tbl ps) : Rd H' a u ∧ a ∉ θ'.av := by
  rcases h with h | ⟨ob, h⟩
  · exact ⟨.inl (E.keep a _ h (Th.nl n) t), E.out h n t⟩
  · exact ⟨.inr ⟨ob, E.keep a _ h (Th.nl n) (fun ps z => by cases z)⟩, E.out h n (fun ps z => by cases z)⟩
mutual
theorem Rep.ext (E : Ext H θ H' θ') : ∀ {v : V} {d : D}, Rep G H θ v d → Rep G H' θ' v d
  | _, _, .non => .non
  | _, _, .bl b => .bl b
  | _, _, .int i => .int i
  | _, _, .str x => .str x
  | _, _, .tup h n r => .tup (rd_ext E h n (fun _ z => by cases z)).1 (rd_ext E h n (fun _ z => by cases z)).2 (Reps.ext E r)
  | _, _, .ktup h r => .ktup h (Reps.ext E r)
  | _, _, .lst h n r => .lst (E.keep _ _ h (Th.nl n) (fun _ z => by cases z)) (E.out h n (fun _ z => by cases z)) (Reps.ext E r)
  | _, _, .flst h n r => .flst (rd_ext E h n (fun _ z => by cases z)).1 (rd_ext E h n (fun _ z => by cases z)).2 (Reps.ext E r)
  | _, _, .klst h r => .klst h (Reps.ext E r)
  | _, _, .dic h n hk r => .dic (E.keep _ _ h (Th.nl n) (fun _ z => by cases z)) (E.out h n (fun _ z => by cases z)) hk (Reps.ext E r)
  | _, _, .obj hc h n hk r => .obj hc (E.keep _ _ h (Th.nl n) (fun _ z => by cases z)) (E.out h n (fun _ z => by cases z)) hk (Reps.ext E r)
  | _, _, .exc0 hc h n => .exc0 hc (E.keep _ _ h (Th.nl n) (fun _ z => by unfold ExH at z; cases z)) (E.out h n (fun _ z => by unfold ExH at z; cases z))
  | _, _, .exc1 hc h n hd nd hk r ne => .exc1 hc (E.keep _ _ h (Th.nl n) (fun _ z => by unfold ExH at z; cases z)) (E.out h n (fun _ z => by unfold ExH at z; cases z))
      (E.keep _ _ hd (Th.nl nd) (fun _ z => by cases z)) (E.out hd nd (fun _ z => by cases z)) hk (Reps.ext E r) ne
  | _, _, .own h => .own (by
      obtain ⟨t, e⟩ := E.pre
      rw [← e]
      obtain ⟨h1, h2⟩ := List.getElem?_eq_some_iff.mp h
      rw [List.getElem?_append_left h1]
      exact h)
theorem Reps.ext (E : Ext H θ H' θ') : ∀ {vs : List V} {ds : List D}, Reps G H θ vs ds → Reps G H' θ' vs ds
  | _, _, .nil => .nil
  | _, _, .cons h t => .cons (Rep.ext E h) (Reps.ext E t)
end
theorem Reps.length : ∀ {vs : List V} {ds : List D}, Reps G H θ vs ds → vs.length = ds.length
  | _, _, .nil => rfl
  | _, _, .cons _ t => by rw [List.length_cons, List.length_cons, Reps.length t]
theorem Reps.get : ∀ {vs : List V} {ds : List D} {i : Nat} {d : D}, Reps G H θ vs ds → ds[i]? = some d → ∃ v, vs[i]? = some v ∧ Rep G H θ v d
  | _, _, _, _, .nil, e => by simp at e
  | _, _, 0, _, .cons h _, e => by simp at e; subst e; exact ⟨_, rfl, h⟩
  | _, _, i + 1, d, .cons _ t, e => by
    obtain ⟨v, h1, h2⟩ := Reps.get (i := i) (d := d) t (by simpa using e)
    exact ⟨v, by simpa using h1, h2⟩
theorem Reps.getv : ∀ {vs : List V} {ds : List D} {i : Nat} {v : V}, Reps G H θ vs ds → vs[i]? = some v → ∃ d, ds[i]? = some d ∧ Rep G H θ v d
  | _, _, _, _, .nil, e => by simp at e
  | _, _, 0, _, .cons h _, e => by simp at e; subst e; exact ⟨_, rfl, h⟩
  | _, _, i + 1, d, .cons _ t, e => by
    obtain ⟨v, h1, h2⟩ := Reps.getv (i := i) (v := d) t (by simpa using e)
    exact ⟨v, by simpa using h1, h2⟩
theorem Reps.append : ∀ {vs ws : List V} {ds es : List D}, Reps G H θ vs ds → Reps G H θ ws es → Reps G H θ (vs ++ ws) (ds ++ es)
  | _, _, _, _, .nil, s => s
  | _, _, _, _, .cons h t, s => .cons h (Reps.append t s)
theorem Reps.set : ∀ {vs : List V} {ds : List D} (i : Nat) {v : V} {d : D}, Reps G H θ vs ds → Rep G H θ v d → Reps G H θ (vs.set i v) (ds.set i d)
  | _, _, _, _, _, .nil, _ => .nil
  | _, _, 0, _, _, .cons _ t, r => .cons r t
  | _, _, i + 1, _, _, .cons h t, r => .cons h (Reps.set i t r)
theorem Reps.take : ∀ {vs : List V} {ds : List D} (n : Nat), Reps G H θ vs ds → Reps G H θ (vs.take n) (ds.take n)
  | _, _, 0, _ => .nil
  | _, _, _ + 1, .nil => .nil
  | _, _, n + 1, .cons h t => .cons h (Reps.take n t)
theorem Reps.drop : ∀ {vs : List V} {ds : List D} (n : Nat), Reps G H θ vs ds → Reps G H θ (vs.drop n) (ds.drop n)
  | _, _, 0, r => r
  | _, _, _ + 1, .nil => .nil
  | _, _, n + 1, .cons _ t => Reps.drop n t
theorem Reps.eraseIdx : ∀ {vs : List V} {ds : List D} (n : Nat), Reps G H θ vs ds → Reps G H θ (vs.eraseIdx n) (ds.eraseIdx n)
  | _, _, _, .nil => .nil
  | _, _, 0, .cons _ t => t
  | _, _, n + 1, .cons h t => .cons h (Reps.eraseIdx n t)
theorem Reps.reverse {vs : List V} {ds : List D} (r : Reps G H θ vs ds) : Reps G H θ vs.reverse ds.reverse := by
  induction r using Reps.rec (motive_1 := fun _ _ _ => True) with
  | nil => exact .nil
  | cons h t _ ih => rw [List.reverse_cons, List.reverse_cons]; exact ih.append (.cons h .nil)
  | _ => trivial
/-- what a changing object's place holds -/
def MOR (G : Cfg) (H : Hp) (θ : Th) (a : Addr) : MO → Prop
  | .lst ds => ∃ xs, H a = some (.lst xs) ∧ Reps G H θ xs ds
  | .dic ks ds => ∃ kvs : List (Key × V), H a = some (.dK kvs) ∧ kvs.map (·.1) = ks ∧ Reps G H θ (kvs.map (·.2)) ds
  | .dit ks ds => ∃ kvs : List (List Key × V), H a = some (.dT kvs) ∧ kvs.map (·.1) = ks ∧ Reps G H θ (kvs.map (·.2)) ds
  | .ins c fs ds => ∃ C dx fv, G.cls[c]? = some C ∧ H a = some (.ins C dx fv) ∧ fv.map (·.1) = fs ∧ Reps G H θ (fv.map (·.2)) ds
structure StoR (G : Cfg) (H : Hp) (θ : Th) (M : Sto) : Prop where
  nd : θ.lb.Nodup
  len : θ.lb.length = M.length
  at_ : ∀ (n : Nat) (m : MO), M[n]? = some m → ∃ a, θ.lb[n]? = some a ∧ MOR G H θ a m
  tabs : LamX.Tabs G.T H
  hid : ∀ a ∈ θ.av, ∃ o, H a = some o ∧ ∀ ps, o ≠ .tbl ps
/-- neither a table nor a code object -/
def Plain (o : HO) : Prop := (∀ ps, o ≠ .tbl ps) ∧ ∀ c q, o ≠ LamX.CodeO c q
theorem MOR.there {m : MO} (r : MOR G H θ a m) : ∃ o, H a = some o ∧ Plain o := by
  cases m with
  | lst ds => obtain ⟨xs, h, _⟩ := r; exact ⟨_, h, ⟨(fun _ z => by cases z), (fun _ _ z => by unfold LamX.CodeO at z; cases z)⟩⟩
  | dic ks ds => obtain ⟨xs, h, _⟩ := r; exact ⟨_, h, ⟨(fun _ z => by cases z), (fun _ _ z => by unfold LamX.CodeO at z; cases z)⟩⟩
  | dit ks ds => obtain ⟨xs, h, _⟩ := r; exact ⟨_, h, ⟨(fun _ z => by cases z), (fun _ _ z => by unfold LamX.CodeO at z; cases z)⟩⟩
  | ins c fs ds => obtain ⟨C, dx, fv, _, h, _⟩ := r; exact ⟨_, h, ⟨(fun _ z => by cases z), (fun _ _ z => by unfold LamX.CodeO at z; cases z)⟩⟩
theorem MOR.ext {m : MO} (r : MOR G H θ a m) (E : Ext H θ H' θ') (h : H' a = H a) : MOR G H' θ' a m := by
  cases m with
  | lst ds => obtain ⟨xs, e, r⟩ := r; exact ⟨xs, h.trans e, r.ext E⟩
  | dic ks ds => obtain ⟨xs, e, k, r⟩ := r; exact ⟨xs, h.trans e, k, r.ext E⟩
  | dit ks ds => obtain ⟨xs, e, k, r⟩ := r; exact ⟨xs, h.trans e, k, r.ext E⟩
  | ins c fs ds => obtain ⟨C, dx, fv, hc, e, k, r⟩ := r; exact ⟨C, dx, fv, hc, h.trans e, k, r.ext E⟩
variable {M M' : Sto}
theorem StoR.there (S : StoR G H θ M) (ha : a ∈ θ.lb) : ∃ o, H a = some o ∧ Plain o := by
  obtain ⟨i, hi, e⟩ := List.mem_iff_getElem.mp ha
  have hm : M[i]? = some (M[i]'(by rw [← S.len]; exact hi)) := List.getElem?_eq_getElem _
  obtain ⟨b, h1, h2⟩ := S.at_ i _ hm
  rw [List.getElem?_eq_getElem hi, e] at h1
  cases h1
  exact h2.there
theorem StoR.out (S : StoR G H θ M) (hp : H p = none) : p ∉ θ.av := fun h => by
  obtain ⟨o, e, _⟩ := S.hid p h
  rw [hp] at e
  cases e
/-- the changing objects stand as they stood -/
theorem StoR.keep (S : StoR G H θ M) (E : Ext H θ H' θ) (h : ∀ a ∈ θ.av, H' a = H a) (t : LamX.Tabs G.T H') : StoR G H' θ M :=
  ⟨S.nd, S.len, fun n m e => by
    obtain ⟨a, h1, h2⟩ := S.at_ n m e
    exact ⟨a, h1, h2.ext E (h a (θ.sub a (List.mem_of_getElem? h1)))⟩, t, fun a ha => by rw [h a ha]; exact S.hid a ha⟩
theorem tabs_new {T : List (Addr × Str)} (t : LamX.Tabs T H) (hp : H p = none) : LamX.Tabs T (upd H p o) := t.ext fun b u e => by
  rw [upd_ne (ne_of_none e hp)]
  exact e
theorem tabs_write {T : List (Addr × Str)} (t : LamX.Tabs T H) {u : HO} (ha : H a = some u) (pl : Plain u) : LamX.Tabs T (upd H a o) := fun q hq => by
  obtain ⟨ps, h1, h2, h3⟩ := t q hq
  refine ⟨ps, ?_, h2, fun pos cv hc => ?_⟩
  · rw [upd_ne (fun z => pl.1 ps (Option.some.inj (ha.symm.trans (by rw [← z]; exact h1))))]
    exact h1
  · obtain ⟨c, e1, e2⟩ := h3 pos cv hc
    refine ⟨c, e1, ?_⟩
    rw [upd_ne (fun z => pl.2 c q.2 (Option.some.inj (ha.symm.trans (by rw [← z]; exact e2))))]
    exact e2
/-- a new object that does not change -/
theorem StoR.alloc (S : StoR G H θ M) (hp : H p = none) (o : HO) : StoR G (upd H p o) θ M :=
  S.keep (Ext.alloc hp o) (fun a ha => upd_ne fun z => S.out hp (by rw [← z]; exact ha)) (tabs_new S.tabs hp)
/-- a new one that is hidden -/
theorem StoR.allocHid (S : StoR G H θ M) (hp : H p = none) (o : HO) (po : ∀ ps, o ≠ .tbl ps) : StoR G (upd H p o) (θ.hid p) M :=
  ⟨S.nd, S.len, fun n m e => by
    obtain ⟨b, h1, h2⟩ := S.at_ n m e
    exact ⟨b, h1, h2.ext (Ext.allocHid hp o) (upd_ne fun z => S.out hp (by rw [← z]; exact θ.sub b (List.mem_of_getElem? h1)))⟩, tabs_new S.tabs hp, fun a ha => by
    rcases List.mem_cons.mp ha with z | ha
    · exact ⟨o, by rw [z, upd_same], po⟩
    · obtain ⟨u, e, pu⟩ := S.hid a ha
      exact ⟨u, by rw [upd_ne (ne_of_none e hp)]; exact e, pu⟩⟩
theorem StoR.push (S : StoR G H θ M) (hp : H p = none) {o : HO} {m : MO} (r : MOR G (upd H p o) (θ.own p) p m) : StoR G (upd H p o) (θ.own p) (M ++ [m]) where
  nd := by
    show (θ.lb ++ [p]).Nodup
    rw [List.nodup_append]
    refine ⟨S.nd, by simp, fun b hb c hc => ?_⟩
    have z : c = p := by simpa using hc
    intro e
    exact S.out hp (θ.sub p (by rw [← z, ← e]; exact hb))
  len := by
    show (θ.lb ++ [p]).length = _
    rw [List.length_append, List.length_append, S.len]
    rfl
  at_ := fun n m' e => by
    show ∃ a, (θ.lb ++ [p])[n]? = some a ∧ _
    by_cases hn : n < M.length
    · rw [List.getElem?_append_left hn] at e
      obtain ⟨b, h1, h2⟩ := S.at_ n m' e
      refine ⟨b, ?_, h2.ext (Ext.allocOwn hp o) (upd_ne fun z => S.out hp (θ.sub p (by rw [← z]; exact List.mem_of_getElem? h1)))⟩
      rw [List.getElem?_append_left (by rw [S.len]; exact hn)]
      exact h1
    · have hn' : M.length ≤ n := Nat.le_of_not_lt hn
      rw [List.getElem?_append_right hn'] at e
      have e0 : n - M.length = 0 := by
        cases q : n - M.length with
        | zero => rfl
        | succ j => rw [q] at e; simp at e
      rw [e0] at e
      have em : m' = m := by simpa using e.symm
      subst em
      refine ⟨p, ?_, r⟩
      rw [List.getElem?_append_right (by rw [S.len]; exact hn'), S.len, e0]
      rfl
  tabs := tabs_new S.tabs hp
  hid := fun a ha => by
    rcases List.mem_cons.mp ha with z | ha
    · obtain ⟨o', e, po⟩ := r.there
      exact ⟨o', by rw [z]; exact e, po.1⟩
    · obtain ⟨u, e, pu⟩ := S.hid a ha
      exact ⟨u, by rw [upd_ne (ne_of_none e hp)]; exact e, pu⟩
theorem StoR.set (S : StoR G H θ M) {n : Nat} (hn : θ.lb[n]? = some a) {o : HO} {m : MO} (r : MOR G (upd H a o) θ a m) : StoR G (upd H a o) θ (M.set n m) where
  nd := S.nd
  len := by rw [List.length_set, S.len]
  at_ := fun j m' e => by
    by_cases hj : j = n
    · subst hj
      have hlt : j < M.length := by
        rw [← S.len]
        exact (List.getElem?_eq_some_iff.mp hn).1
      rw [List.getElem?_set_self hlt] at e
      cases e
      exact ⟨a, hn, r⟩
    · rw [List.getElem?_set_ne (Ne.symm hj)] at e
      obtain ⟨b, h1, h2⟩ := S.at_ j m' e
      refine ⟨b, h1, h2.ext (Ext.write (List.mem_of_getElem? hn) o) (upd_ne fun z => hj ?_)⟩
      obtain ⟨k1, q1⟩ := List.getElem?_eq_some_iff.mp h1
      obtain ⟨k2, q2⟩ := List.getElem?_eq_some_iff.mp hn
      exact (List.getElem_inj S.nd).mp (q1.trans (z.trans q2.symm))
  tabs := by
    obtain ⟨u, hu, pl⟩ := S.there (List.mem_of_getElem? hn)
    exact tabs_write S.tabs hu pl
  hid := fun b hb => by
    by_cases z : b = a
    · obtain ⟨o', e, po⟩ := r.there
      exact ⟨o', by rw [z]; exact e, po.1⟩
    · obtain ⟨u, e, pu⟩ := S.hid b hb
      exact ⟨u, by rw [upd_ne z]; exact e, pu⟩
theorem StoR.own (S : StoR G H θ M) {n : Nat} {m : MO} (hn : θ.lb[n]? = some a) (hm : M[n]? = some m) : MOR G H θ a m := by
  obtain ⟨b, h1, h2⟩ := S.at_ n m hm
  rw [hn] at h1
  cases h1
  exact h2
/-! ### a hidden object is written, and shown -/
theorem rd_touch {u : HO} (h : Rd H a u) (n : a ∉ θ.av) (hp : p ∈ θ.av) : Rd (upd H p o) a u := by
  have ne : a ≠ p := fun z => n (by rw [z]; exact hp)
  rcases h with h | ⟨ob, h⟩
  · exact .inl (by rw [upd_ne ne]; exact h)
  · exact .inr ⟨ob, by rw [upd_ne ne]; exact h⟩
theorem at_touch {u : HO} (h : H a = some u) (n : a ∉ θ.av) (hp : p ∈ θ.av) : upd H p o a = some u := by
  rw [upd_ne (fun z => n (by rw [z]; exact hp))]
  exact h
mutual
theorem Rep.touch (hp : p ∈ θ.av) : ∀ {v : V} {d : D}, Rep G H θ v d → Rep G (upd H p o) θ v d
  | _, _, .non => .non
  | _, _, .bl b => .bl b
  | _, _, .int i => .int i
  | _, _, .str x => .str x
  | _, _, .tup h n r => .tup (rd_touch h n hp) n (Reps.touch hp r)
  | _, _, .ktup h r => .ktup h (Reps.touch hp r)
  | _, _, .lst h n r => .lst (at_touch h n hp) n (Reps.touch hp r)
  | _, _, .flst h n r => .flst (rd_touch h n hp) n (Reps.touch hp r)
  | _, _, .klst h r => .klst h (Reps.touch hp r)
  | _, _, .dic h n hk r => .dic (at_touch h n hp) n hk (Reps.touch hp r)
  | _, _, .obj hc h n hk r => .obj hc (at_touch h n hp) n hk (Reps.touch hp r)
  | _, _, .exc0 hc h n => .exc0 hc (at_touch h n hp) n
  | _, _, .exc1 hc h n hd nd hk r ne => .exc1 hc (at_touch h n hp) n (at_touch hd nd hp) nd hk (Reps.touch hp r) ne
  | _, _, .own h => .own h
theorem Reps.touch (hp : p ∈ θ.av) : ∀ {vs : List V} {ds : List D}, Reps G H θ vs ds → Reps G (upd H p o) θ vs ds
  | _, _, .nil => .nil
  | _, _, .cons h t => .cons (Rep.touch hp h) (Reps.touch hp t)
end
mutual
/-- fewer are hidden -/
theorem Rep.less (hs : ∀ a ∈ θ'.av, a ∈ θ.av) (hl : θ.lb <+: θ'.lb) : ∀ {v : V} {d : D}, Rep G H θ v d → Rep G H θ' v d
  | _, _, .non => .non
  | _, _, .bl b => .bl b
  | _, _, .int i => .int i
  | _, _, .str x => .str x
  | _, _, .tup h n r => .tup h (fun z => n (hs _ z)) (Reps.less hs hl r)
  | _, _, .ktup h r => .ktup h (Reps.less hs hl r)
  | _, _, .lst h n r => .lst h (fun z => n (hs _ z)) (Reps.less hs hl r)
  | _, _, .flst h n r => .flst h (fun z => n (hs _ z)) (Reps.less hs hl r)
  | _, _, .klst h r => .klst h (Reps.less hs hl r)
  | _, _, .dic h n hk r => .dic h (fun z => n (hs _ z)) hk (Reps.less hs hl r)
  | _, _, .obj hc h n hk r => .obj hc h (fun z => n (hs _ z)) hk (Reps.less hs hl r)
  | _, _, .exc0 hc h n => .exc0 hc h (fun z => n (hs _ z))
  | _, _, .exc1 hc h n hd nd hk r ne => .exc1 hc h (fun z => n (hs _ z)) hd (fun z => nd (hs _ z)) hk (Reps.less hs hl r) ne
  | _, _, .own h => .own (by
      obtain ⟨t, e⟩ := hl
      rw [← e]
      obtain ⟨h1, h2⟩ := List.getElem?_eq_some_iff.mp h
      rw [List.getElem?_append_left h1, List.getElem?_eq_getElem h1, h2])
theorem Reps.less (hs : ∀ a ∈ θ'.av, a ∈ θ.av) (hl : θ.lb <+: θ'.lb) : ∀ {vs : List V} {ds : List D}, Reps G H θ vs ds → Reps G H θ' vs ds
  | _, _, .nil => .nil
  | _, _, .cons h t => .cons (Rep.less hs hl h) (Reps.less hs hl t)
end
theorem MOR.touch {m : MO} (r : MOR G H θ a m) (hp : p ∈ θ.av) (ne : a ≠ p) : MOR G (upd H p o) θ a m := by
  cases m with
  | lst ds => obtain ⟨xs, e, r⟩ := r; exact ⟨xs, by rw [upd_ne ne]; exact e, r.touch hp⟩
  | dic ks ds => obtain ⟨xs, e, k, r⟩ := r; exact ⟨xs, by rw [upd_ne ne]; exact e, k, r.touch hp⟩
  | dit ks ds => obtain ⟨xs, e, k, r⟩ := r; exact ⟨xs, by rw [upd_ne ne]; exact e, k, r.touch hp⟩
  | ins c fs ds => obtain ⟨C, dx, fv, hc, e, k, r⟩ := r; exact ⟨C, dx, fv, hc, by rw [upd_ne ne]; exact e, k, r.touch hp⟩
theorem MOR.less {m : MO} (r : MOR G H θ a m) (hs : ∀ a ∈ θ'.av, a ∈ θ.av) (hl : θ.lb <+: θ'.lb) : MOR G H θ' a m := by
  cases m with
  | lst ds => obtain ⟨xs, e, r⟩ := r; exact ⟨xs, e, r.less hs hl⟩
  | dic ks ds => obtain ⟨xs, e, k, r⟩ := r; exact ⟨xs, e, k, r.less hs hl⟩
  | dit ks ds => obtain ⟨xs, e, k, r⟩ := r; exact ⟨xs, e, k, r.less hs hl⟩
  | ins c fs ds => obtain ⟨C, dx, fv, hc, e, k, r⟩ := r; exact ⟨C, dx, fv, hc, e, k, r.less hs hl⟩
theorem StoR.touch (S : StoR G H θ M) (hp : p ∈ θ.av) (nl : p ∉ θ.lb) {u : HO} (hu : H p = some u) (pl : Plain u) (po : ∀ ps, o ≠ .tbl ps) : StoR G (upd H p o) θ M :=
  ⟨S.nd, S.len, fun n m e => by
    obtain ⟨b, h1, h2⟩ := S.at_ n m e
    exact ⟨b, h1, h2.touch hp (fun z => nl (by rw [← z]; exact List.mem_of_getElem? h1))⟩, tabs_write S.tabs hu pl, fun b hb => by
    by_cases z : b = p
    · exact ⟨o, by rw [z, upd_same], po⟩
    · obtain ⟨u, e, pu⟩ := S.hid b hb
      exact ⟨u, by rw [upd_ne z]; exact e, pu⟩⟩
theorem StoR.less (S : StoR G H θ M) (hs : ∀ a ∈ θ'.av, a ∈ θ.av) (hl : θ'.lb = θ.lb) : StoR G H θ' M :=
  ⟨by rw [hl]; exact S.nd, by rw [hl]; exact S.len, fun n m e => by
    obtain ⟨b, h1, h2⟩ := S.at_ n m e
    exact ⟨b, by rw [hl]; exact h1, h2.less hs ⟨[], by rw [hl]; simp⟩⟩, S.tabs, fun a ha => S.hid a (hs a ha)⟩
theorem Th.unh_sub (θ : Th) (p : Addr) : ∀ a ∈ (θ.unh p).av, a ∈ θ.av := fun a h => (List.mem_filter.mp h).1
theorem Th.unh_out (θ : Th) (n : p ∉ θ.lb) : p ∉ (θ.unh p).av := fun h => by
  have z := (List.mem_filter.mp h).2
  simp [n] at z
/-! ### the frame's names -/
def EnvR (G : Cfg) (H : Hp) (θ : Th) (σ : L2.St) (ρ : Env) : Prop := σ.length = ρ.length ∧ ∀ (i : Nat) (d : D), ρ[i]? = some (some d) → ∃ v, σ[i]? = some (some v) ∧ Rep G H θ v d
variable {σ σ' : L2.St} {ρ ρ' : Env}
theorem EnvR.ext (R : EnvR G H θ σ ρ) (E : Ext H θ H' θ') : EnvR G H' θ' σ ρ := ⟨R.1, fun i d e => by
  obtain ⟨v, h1, h2⟩ := R.2 i d e
  exact ⟨v, h1, h2.ext E⟩⟩
theorem EnvR.touch (R : EnvR G H θ σ ρ) (hp : p ∈ θ.av) : EnvR G (upd H p o) θ σ ρ := ⟨R.1, fun i d e => by
  obtain ⟨v, h1, h2⟩ := R.2 i d e
  exact ⟨v, h1, h2.touch hp⟩⟩
theorem EnvR.less (R : EnvR G H θ σ ρ) (hs : ∀ a ∈ θ'.av, a ∈ θ.av) (hl : θ.lb <+: θ'.lb) : EnvR G H θ' σ ρ := ⟨R.1, fun i d e => by
  obtain ⟨v, h1, h2⟩ := R.2 i d e
  exact ⟨v, h1, h2.less hs hl⟩⟩
theorem EnvR.set (R : EnvR G H θ σ ρ) (i : Nat) {v : V} {d : D} (r : Rep G H θ v d) : EnvR G H θ (σ.set i (some v)) (ρ.set i (some d)) :=
  ⟨by rw [List.length_set, List.length_set]; exact R.1, fun j e h => by
    by_cases hj : j = i
    · subst hj
      by_cases hl : j < ρ.length
      · rw [List.getElem?_set_self hl] at h
        cases h
        exact ⟨v, by rw [List.getElem?_set_self (by rw [R.1]; exact hl)], r⟩
      · rw [List.getElem?_eq_none (by rw [List.length_set]; exact Nat.le_of_not_lt hl)] at h
        cases h
    · rw [List.getElem?_set_ne (Ne.symm hj)] at h
      rw [List.getElem?_set_ne (Ne.symm hj)]
      exact R.2 j e h⟩
theorem EnvR.gone (R : EnvR G H θ σ ρ) (i : Nat) : EnvR G H θ (σ.set i none) (ρ.set i none) :=
  ⟨by rw [List.length_set, List.length_set]; exact R.1, fun j e h => by
    by_cases hj : j = i
    · subst hj
      by_cases hl : j < ρ.length
      · rw [List.getElem?_set_self hl] at h
        cases h
      · rw [List.getElem?_eq_none (by rw [List.length_set]; exact Nat.le_of_not_lt hl)] at h
        cases h
    · rw [List.getElem?_set_ne (Ne.symm hj)] at h
      rw [List.getElem?_set_ne (Ne.symm hj)]
      exact R.2 j e h⟩
end
/-! ### what an expression, a block comes to -/
inductive Res (α : Type) where
  | ok (a : α) (M : Sto)
  | exc (c : Nat) (fs : List Str) (vs : List D) (M : Sto)
  | bad
inductive Out where
  | nx (ρ : Env) (M : Sto)
  | rt (d : D) (M : Sto)
  | bk (ρ : Env) (M : Sto)
  | ct (ρ : Env) (M : Sto)
  | exc (c : Nat) (fs : List Str) (vs : List D) (ρ : Env) (M : Sto)
  | bad
def Res.bind {α β : Type} : Res α → (α → Sto → Res β) → Res β
  | .ok a M, f => f a M
  | .exc c fs vs M, _ => .exc c fs vs M
  | .bad, _ => .bad
/-- what is known of an exception -/
def ExcR (G : Cfg) (H : Hp) (θ : Th) (cls : Value) (d : Option Addr) (c : Nat) (fs : List Str) (ds : List D) : Prop :=
  ∃ C, G.exs[c]? = some C ∧ cls = .ref C ∧ ((d = none ∧ fs = [] ∧ ds = []) ∨ ∃ dd fv, d = some dd ∧ H dd = some (.xd fv) ∧ dd ∉ θ.av ∧ fv.map (·.1) = fs ∧ Reps G H θ (fv.map (·.2)) ds ∧ fs ≠ [])
abbrev FE (α : Type) := Env → Sto → Res α
/-- behind an expression -/
def postR {α : Type} (G : Cfg) (W : WX) (σ : L2.St) (H : Hp) (θ : Th) (R : Hp → Th → Sto → α → Prop) : Res α → Prop
  | .ok a M => ∀ H' θ', Ext H θ H' θ' → StoR G H' θ' M → R H' θ' M a
  | .exc c fs vs M => ∀ cls dd H' θ', Ext H θ H' θ' → StoR G H' θ' M → ExcR G H' θ' cls dd c fs vs → W cls dd σ H'
  | .bad => False
def StR (G : Cfg) (σ : L2.St) (H : Hp) (ρ : Env) (θ : Th) (M : Sto) : Prop := EnvR G H θ σ ρ ∧ StoR G H θ M
def rdE (G : Cfg) (W : WX) (f : FE D) : TE := fun σ H Q => ∃ ρ θ M, StR G σ H ρ θ M ∧ postR G W σ H θ (fun H' θ' _ d => ∀ v, Rep G H' θ' v d → Q v H') (f ρ M)
def rdT (G : Cfg) (W : WX) (f : FE Bool) : TT := fun σ H Q => ∃ ρ θ M, StR G σ H ρ θ M ∧ postR G W σ H θ (fun H' _ _ b => Q b H') (f ρ M)
def rdA (G : Cfg) (W : WX) (f : FE (List D)) : TA := fun σ H Q => ∃ ρ θ M, StR G σ H ρ θ M ∧ postR G W σ H θ (fun H' θ' _ ds => ∀ vs, Reps G H' θ' vs ds → Q vs H') (f ρ M)
/-- what the rules ask of the context -/
structure Okc (G : Cfg) (X : Cx) : Prop where
  hk : G.K = X.K
  calm : X.calm = true
  hu : X.A.units + 100 < cLine

def DE (G : Cfg) (X : Cx) (e : Expr) (f : FE D) : Prop := Okc G X → ∀ W, Takes X W → PE X e (rdE G W f)
def DT (G : Cfg) (X : Cx) (e : Expr) (f : FE Bool) : Prop := Okc G X → ∀ W, Takes X W → PT X e (rdT G W f)
/-- a test, whatever its whole is -/
def DW (G : Cfg) (X : Cx) (e : Expr) (f : FE Bool) : Prop := Okc G X → ∀ W, Takes X W → PW X e (rdT G W f)
def DA (G : Cfg) (X : Cx) (es : List Expr) (f : FE (List D)) : Prop := Okc G X → ∀ W, Takes X W → PA X es (rdA G W f)
/-- behind a statement -/
def postS (G : Cfg) (W : WX) (D : Ends) (H : Hp) (θ : Th) : Out → Prop
  | .nx ρ M => ∀ σ' H' θ', Ext H θ H' θ' → StR G σ' H' ρ θ' M → D.nx σ' H'
  | .bk ρ M => ∀ σ' H' θ', Ext H θ H' θ' → StR G σ' H' ρ θ' M → D.bk σ' H'
  | .ct ρ M => ∀ σ' H' θ', Ext H θ H' θ' → StR G σ' H' ρ θ' M → D.ct σ' H'
  | .rt d M => ∀ v H' θ', Ext H θ H' θ' → StoR G H' θ' M → Rep G H' θ' v d → D.rt v H'
  | .exc c fs vs ρ M => ∀ cls dd σ' H' θ', Ext H θ H' θ' → StR G σ' H' ρ θ' M → ExcR G H' θ' cls dd c fs vs → W cls dd σ' H'
  | .bad => False
abbrev FS := Env → Sto → Out
def rdS (G : Cfg) (W : WX) (g : FS) : TS := fun D σ H => ∃ ρ θ M, StR G σ H ρ θ M ∧ postS G W D H θ (g ρ M)
def DS (G : Cfg) (X : Cx) (st : Stmt) (g : FS) : Prop := Okc G X → PassesOwn (model X.prog X.w) X.A X.env X.xe → ∀ W, Takes X W → PS X st (rdS G W g)
def DSs (G : Cfg) (X : Cx) (st : List Stmt) (g : FS) : Prop := Okc G X → PassesOwn (model X.prog X.w) X.A X.env X.xe → ∀ W, Takes X W → PSs X st (rdS G W g)
section
variable {G : Cfg} {W : WX} {σ σ' : L2.St} {H H1 H' : Hp} {ρ ρ' : Env} {θ θ1 θ' : Th} {M M1 : Sto}
theorem StR.ext (S : StR G σ H ρ θ M) (E : Ext H θ H1 θ1) (S1 : StoR G H1 θ1 M1) : StR G σ H1 ρ θ1 M1 := ⟨S.1.ext E, S1⟩
theorem postR.base {α : Type} {R : Hp → Th → Sto → α → Prop} {r : Res α} (h : postR G W σ H θ R r) (E : Ext H θ H1 θ1) : postR G W σ H1 θ1 R r := by
  cases r with
  | ok a M1 => exact fun H' θ' E1 S1 => h H' θ' (E.trans E1) S1
  | exc c fs vs M1 => exact fun cls dd H' θ' E1 S1 x => h cls dd H' θ' (E.trans E1) S1 x
  | bad => exact h
theorem postR.imp {α : Type} {R R' : Hp → Th → Sto → α → Prop} {r : Res α} (h : postR G W σ H θ R r) (k : ∀ H' θ' M' a, R H' θ' M' a → R' H' θ' M' a) : postR G W σ H θ R' r := by
  cases r with
  | ok a M1 => exact fun H' θ' E1 S1 => k _ _ _ _ (h H' θ' E1 S1)
  | exc c fs vs M1 => exact h
  | bad => exact h
/-- one part, then the rest -/
theorem postR.seq {α β : Type} {S : Hp → Th → Sto → β → Prop} {R : Hp → Th → Sto → α → Prop} {r : Res α} {g : α → Sto → Res β} (h : postR G W σ H θ S (r.bind g))
    (k : ∀ x M1 H1 θ1, Ext H θ H1 θ1 → StoR G H1 θ1 M1 → postR G W σ H1 θ1 S (g x M1) → R H1 θ1 M1 x) : postR G W σ H θ R r := by
  cases r with
  | ok a M1 => exact fun H1 θ1 E S1 => k a M1 H1 θ1 E S1 (postR.base (show postR G W σ H θ S (g a M1) from h) E)
  | exc c fs vs M1 => exact h
  | bad => exact h
theorem postS.base {D : Ends} {r : Out} (h : postS G W D H θ r) (E : Ext H θ H1 θ1) : postS G W D H1 θ1 r := by
  cases r with
  | nx ρ M => exact fun σ' H' θ' E1 S1 => h σ' H' θ' (E.trans E1) S1
  | bk ρ M => exact fun σ' H' θ' E1 S1 => h σ' H' θ' (E.trans E1) S1
  | ct ρ M => exact fun σ' H' θ' E1 S1 => h σ' H' θ' (E.trans E1) S1
  | rt d M => exact fun v H' θ' E1 S1 x => h v H' θ' (E.trans E1) S1 x
  | exc c fs vs ρ M => exact fun cls dd σ' H' θ' E1 S1 x => h cls dd σ' H' θ' (E.trans E1) S1 x
  | bad => exact h
/-- an expression's result, then a statement's -/
def Res.thn {α : Type} (r : Res α) (ρ : Env) (g : α → Sto → Out) : Out := match r with
  | .ok a M => g a M
  | .exc c fs vs M => .exc c fs vs ρ M
  | .bad => .bad
theorem postS.seq {α : Type} {D : Ends} {R : Hp → Th → Sto → α → Prop} {r : Res α} {g : α → Sto → Out} (S0 : EnvR G H θ σ ρ) (h : postS G W D H θ (r.thn ρ g))
    (k : ∀ x M1 H1 θ1, Ext H θ H1 θ1 → StoR G H1 θ1 M1 → postS G W D H1 θ1 (g x M1) → R H1 θ1 M1 x) : postR G W σ H θ R r := by
  cases r with
  | ok a M1 => exact fun H1 θ1 E S1 => k a M1 H1 θ1 E S1 (postS.base (show postS G W D H θ (g a M1) from h) E)
  | exc c fs vs M1 => exact fun cls dd H' θ' E S1 x => h cls dd σ H' θ' E ⟨S0.ext E, S1⟩ x
  | bad => exact h
end
end DL
namespace L2
open PySem PySem.Spec PyProof.Rows
section
variable {X : Cx}
theorem PE.imp {e : Expr} {t t' : TE} (h : PE X e t) (k : ∀ σ H Q, t' σ H Q → t σ H Q) : PE X e t' := ⟨fun pins s σ H Q I q => h.run pins s σ H Q I (k σ H Q q)⟩
theorem PT.imp {e : Expr} {t t' : TT} (h : PT X e t) (k : ∀ σ H Q, t' σ H Q → t σ H Q) : PT X e t' := ⟨fun pins s σ H Q I q => h.run pins s σ H Q I (k σ H Q q)⟩
theorem PW.imp {e : Expr} {t t' : TT} (h : PW X e t) (k : ∀ σ H Q, t' σ H Q → t σ H Q) : PW X e t' := ⟨fun wh pins s σ H Q I q => h.run wh pins s σ H Q I (k σ H Q q)⟩
theorem PA.imp {e : List Expr} {t t' : TA} (h : PA X e t) (k : ∀ σ H Q, t' σ H Q → t σ H Q) : PA X e t' := ⟨fun p pins s σ H Q I q => h.run p pins s σ H Q I (k σ H Q q)⟩
theorem PS.imp {e : Stmt} {t t' : TS} (h : PS X e t) (k : ∀ D σ H, t' D σ H → t D σ H) : PS X e t' := ⟨fun pins s σ H Q I q => h.run pins s σ H Q I (k Q σ H q)⟩
theorem PSs.imp {e : List Stmt} {t t' : TS} (h : PSs X e t) (k : ∀ D σ H, t' D σ H → t D σ H) : PSs X e t' := ⟨fun pins s σ H Q I q => h.run pins s σ H Q I (k Q σ H q)⟩
end
end L2
set_option maxHeartbeats 4000000
namespace DL
open PySem PySem.Spec PyProof.Rows L2
/-! ### what a representation says of the value -/
section
variable {G : Cfg} {H : Hp} {θ : Th} {M : Sto} {v : V} {d : D}
theorem rep_non (r : Rep G H θ v .non) : v = .non := by cases r; rfl
theorem rep_bl {b : Bool} (r : Rep G H θ v (.bl b)) : v = .bl b := by cases r; rfl
theorem rep_int {i : Int} (r : Rep G H θ v (.int i)) : v = .int i := by cases r; rfl
theorem rep_str {x : Str} (r : Rep G H θ v (.str x)) : v = .str x := by cases r; rfl
theorem rep_tup {ds : List D} (r : Rep G H θ v (.tup ds)) : ∃ a xs, v = .ref a ∧ SqT G.K H a xs ∧ Reps G H θ xs ds := by
  cases r with
  | tup h n r => exact ⟨_, _, rfl, .inl h, r⟩
  | ktup h r => exact ⟨_, _, rfl, .inr h, r⟩
/-- the items of a list, changing or not -/
def lstOf (M : Sto) : D → Option (List D)
  | .lst ds => some ds
  | .flst ds => some ds
  | .own n => match M[n]? with
    | some (.lst ds) => some ds
    | _ => none
  | _ => none
theorem rep_lst {ds : List D} (S : StoR G H θ M) (r : Rep G H θ v d) (h : lstOf M d = some ds) : ∃ a xs, v = .ref a ∧ SqL G.K H a xs ∧ Reps G H θ xs ds := by
  cases r with
  | lst h' n r => cases h; exact ⟨_, _, rfl, .inl (.inl h'), r⟩
  | flst h' n r => cases h; exact ⟨_, _, rfl, .inl h', r⟩
  | klst h' r => cases h; exact ⟨_, _, rfl, .inr h', r⟩
  | @own a n h' =>
    have h2 : (match M[n]? with | some (MO.lst ds) => some ds | _ => none) = some ds := h
    split at h2
    · rename_i ds' hm
      cases h2
      obtain ⟨xs, e, r⟩ := S.own h' hm
      exact ⟨_, xs, rfl, .inl (.inl e), r⟩
    · cases h2
  | _ => cases h
def seqOf (M : Sto) : D → Option (List D)
  | .tup ds => some ds
  | d => lstOf M d
theorem rep_seq {ds : List D} (S : StoR G H θ M) (r : Rep G H θ v d) (h : seqOf M d = some ds) : ∃ a xs, v = .ref a ∧ (SqL G.K H a xs ∨ SqT G.K H a xs) ∧ Reps G H θ xs ds := by
  by_cases hd : ∃ es, d = .tup es
  · obtain ⟨es, rfl⟩ := hd
    cases h
    obtain ⟨a, xs, e, h, r⟩ := rep_tup r
    exact ⟨a, xs, e, .inr h, r⟩
  · have h' : lstOf M d = some ds := by
      unfold seqOf at h
      split at h
      · exact absurd ⟨_, rfl⟩ hd
      · exact h
    obtain ⟨a, xs, e, h, r⟩ := rep_lst S r h'
    exact ⟨a, xs, e, .inl h, r⟩
/-- a new object that does not change: a tuple, a list -/
theorem new_tup {H1 : Hp} {p : Addr} {xs : List V} {ds : List D} (S : StoR G H1 θ M) (hp : H1 p = none) (r : Reps G H1 θ xs ds) : Rep G (upd H1 p (.tup xs)) θ (.ref p) (.tup ds) :=
  .tup (.inl upd_same) (S.out hp) (r.ext (Ext.alloc hp _))
theorem new_lst {H1 : Hp} {p : Addr} {xs : List V} {ds : List D} (S : StoR G H1 θ M) (hp : H1 p = none) (r : Reps G H1 θ xs ds) : Rep G (upd H1 p (.lst xs)) θ (.ref p) (.lst ds) :=
  .lst upd_same (S.out hp) (r.ext (Ext.alloc hp _))
end
def Res.ofO {α : Type} : Option α → Sto → Res α
  | some a, M => .ok a M
  | none, _ => .bad
@[simp] theorem Res.ofO_some {α : Type} (a : α) (M : Sto) : Res.ofO (some a) M = .ok a M := rfl
@[simp] theorem Res.bind_ok {α β : Type} (a : α) (M : Sto) (g : α → Sto → Res β) : (Res.ok a M).bind g = g a M := rfl
section
variable {G : Cfg} {X : Cx} {a b c e : Expr} {es : List Expr} {fa fb fc f : FE D} {ft : FE Bool} {fs : FE (List D)} {pos : Pos} {W : WX}
/-! ### names, constants -/
def dVar (i : Nat) : FE D := fun ρ M => match ρ[i]? with
  | some (some d) => .ok d M
  | _ => .bad
theorem de_var (i : Nat) {x : Str} (hN : X.N[i]? = some x := by rfl) (hv : Vis X.env.scope x := by first | exact Or.inl rfl | exact Or.inr (Or.inl rfl) | exact Or.inr (Or.inr rfl)) (hd : (x == ("__debug__" : Str)) = false := by decide)
    (hcd : (x == ("__classdict__" : Str)) = false := by decide) : DE G X (.Name x pos) (dVar i) := fun ok W tk => by
  refine (pe_var hN hv hd hcd).imp fun σ H Q h => ?_
  obtain ⟨ρ, θ, M, S, q⟩ := h
  unfold dVar at q
  split at q
  · rename_i d e
    obtain ⟨v, h1, h2⟩ := S.1.2 i d e
    exact ⟨v, h1, q H θ (Ext.refl _ _) S.2 v h2⟩
  · exact q.elim
def dC (d : D) : FE D := fun _ M => .ok d M
theorem de_int {i : Int} {j : Nat} : DE G X (.Constant (.int i) j pos) (dC (.int i)) := fun ok W tk => pe_int.imp fun σ H Q h => by
  obtain ⟨ρ, θ, M, S, q⟩ := h
  exact q H θ (Ext.refl _ _) S.2 _ (.int i)
theorem de_bl {i : Bool} {j : Nat} : DE G X (.Constant (.bool i) j pos) (dC (.bl i)) := fun ok W tk => pe_bl.imp fun σ H Q h => by
  obtain ⟨ρ, θ, M, S, q⟩ := h
  exact q H θ (Ext.refl _ _) S.2 _ (.bl i)
theorem de_non {j : Nat} : DE G X (.Constant .none j pos) (dC .non) := fun ok W tk => pe_non.imp fun σ H Q h => by
  obtain ⟨ρ, θ, M, S, q⟩ := h
  exact q H θ (Ext.refl _ _) S.2 _ .non
theorem de_str {x : Str} {j : Nat} : DE G X (.Constant (.str x) j pos) (dC (.str x)) := fun ok W tk => pe_str.imp fun σ H Q h => by
  obtain ⟨ρ, θ, M, S, q⟩ := h
  exact q H θ (Ext.refl _ _) S.2 _ (.str x)
/-- a module's name for an int or a text -/
theorem de_gint {x : Str} {i : Int} {t : Tok} (hm : X.mg x = some (.int i t)) (hg : Gl X x := by rfl) (hd : (x == ("__debug__" : Str)) = false := by decide) : DE G X (.Name x pos) (dC (.int i)) := fun ok W tk => (pe_glob (v := .int i) hg hm ⟨_, rfl⟩ hd).imp fun σ H Q h => by
  obtain ⟨ρ, θ, M, S, q⟩ := h
  exact q H θ (Ext.refl _ _) S.2 _ (.int i)
theorem de_gstr {x : Str} {i : Str} {t : Tok} (hm : X.mg x = some (.str i t)) (hg : Gl X x := by rfl) (hd : (x == ("__debug__" : Str)) = false := by decide) : DE G X (.Name x pos) (dC (.str i)) := fun ok W tk => (pe_glob (v := .str i) hg hm ⟨_, rfl⟩ hd).imp fun σ H Q h => by
  obtain ⟨ρ, θ, M, S, q⟩ := h
  exact q H θ (Ext.refl _ _) S.2 _ (.str i)
/-! ### a part, then the rest -/
theorem rdE_seq {α : Type} {S : Hp → Th → Sto → α → Prop} {g : D → FE α} {σ : L2.St} {H : Hp} {Q : VK} {ρ : Env} {θ : Th} {M : Sto} (S0 : StR G σ H ρ θ M) (h : postR G W σ H θ S ((f ρ M).bind fun x => g x ρ))
    (k : ∀ x v H1 θ1 M1, StR G σ H1 ρ θ1 M1 → Ext H θ H1 θ1 → Rep G H1 θ1 v x → postR G W σ H1 θ1 S (g x ρ M1) → Q v H1) : rdE G W f σ H Q :=
  ⟨ρ, θ, M, S0, h.seq fun x M1 H1 θ1 E S1 q v r => k x v H1 θ1 M1 (S0.ext E S1) E r q⟩
theorem rdT_seq {α : Type} {S : Hp → Th → Sto → α → Prop} {g : Bool → FE α} {σ : L2.St} {H : Hp} {Q : Bool → Hp → Prop} {ρ : Env} {θ : Th} {M : Sto} (S0 : StR G σ H ρ θ M) (h : postR G W σ H θ S ((ft ρ M).bind fun x => g x ρ))
    (k : ∀ x H1 θ1 M1, StR G σ H1 ρ θ1 M1 → Ext H θ H1 θ1 → postR G W σ H1 θ1 S (g x ρ M1) → Q x H1) : rdT G W ft σ H Q :=
  ⟨ρ, θ, M, S0, h.seq fun x M1 H1 θ1 E S1 q => k x H1 θ1 M1 (S0.ext E S1) E q⟩
theorem rdA_seq {α : Type} {S : Hp → Th → Sto → α → Prop} {g : List D → FE α} {σ : L2.St} {H : Hp} {Q : List V → Hp → Prop} {ρ : Env} {θ : Th} {M : Sto} (S0 : StR G σ H ρ θ M) (h : postR G W σ H θ S ((fs ρ M).bind fun x => g x ρ))
    (k : ∀ xs vs H1 θ1 M1, StR G σ H1 ρ θ1 M1 → Ext H θ H1 θ1 → Reps G H1 θ1 vs xs → postR G W σ H1 θ1 S (g xs ρ M1) → Q vs H1) : rdA G W fs σ H Q :=
  ⟨ρ, θ, M, S0, h.seq fun x M1 H1 θ1 E S1 q vs r => k x vs H1 θ1 M1 (S0.ext E S1) E r q⟩
/-! ### operators by values -/
/-- what an operator gives, by data: g -/
def rOp (G : Cfg) (g : Sto → D → D → Option D) : R2 := fun x y H Q => ∃ θ M dx dy d, StoR G H θ M ∧ Rep G H θ x dx ∧ Rep G H θ y dy ∧ g M dx dy = some d ∧ ∀ v H', Ext H θ H' θ → StoR G H' θ M → Rep G H' θ v d → Q v H'
def OpD (G : Cfg) (X : Cx) (f : Value → Value → Sem Value) (g : Sto → D → D → Option D) : Prop := Okc G X → OpR X f (rOp G g)
def dBin (g : Sto → D → D → Option D) (fa fb : FE D) : FE D := fun ρ M => (fa ρ M).bind fun x M1 => (fb ρ M1).bind fun y M2 => .ofO (g M2 x y) M2
theorem bin_rd {g : Sto → D → D → Option D} {σ : L2.St} {H : Hp} {Q : VK} (h : rdE G W (dBin g fa fb) σ H Q) : tOp (rOp G g) (rdE G W fa) (rdE G W fb) σ H Q := by
  obtain ⟨ρ, θ, M, S, q⟩ := h
  refine rdE_seq (g := fun x ρ M1 => (fb ρ M1).bind fun y M2 => .ofO (g M2 x y) M2) S q fun x v H1 θ1 M1 S1 E1 r1 q1 => ?_
  refine rdE_seq (g := fun y ρ M2 => .ofO (g M2 x y) M2) S1 q1 fun y u H2 θ2 M2 S2 E2 r2 q2 => ?_
  cases e : g M2 x y with
  | none => rw [e] at q2; exact q2.elim
  | some d =>
    rw [e] at q2
    exact ⟨θ2, M2, x, y, d, S2.2, r1.ext E2, r2, e, fun v H' E S' r => q2 H' θ2 E S' v r⟩
theorem de_bin {op : Operator} {g : Sto → D → D → Option D} (o : OpD G X (binaryOp op) g) (ha : DE G X a fa) (hb : DE G X b fb) : DE G X (.BinOp a op b pos) (dBin g fa fb) := fun ok W tk =>
  (pe_op (o ok) (ha ok W tk) (hb ok W tk)).imp fun σ H Q h => bin_rd h
theorem de_cmp {op : CmpOp} {g : Sto → D → D → Option D} (o : OpD G X (compareOp op) g) (ha : DE G X a fa) (hb : DE G X b fb) (hm : behindInMarks op b = false := by first | exact nomark _ | rfl) : DE G X (.Compare a [op] [b] pos) (dBin g fa fb) := fun ok W tk =>
  (pe_cmpR (o ok) (ha ok W tk) (hb ok W tk) hm).imp fun σ H Q h => bin_rd h
/-- a value as a test: a bool -/
def dTst (f : FE D) : FE Bool := fun ρ M => (f ρ M).bind fun x M1 => match x with
  | .bl k => .ok k M1
  | _ => .bad
theorem tst_rd {σ : L2.St} {H : Hp} {Q : Bool → Hp → Prop} (h : rdT G W (dTst f) σ H Q) : rdE G W f σ H fun x H1 => ∃ k, x = .bl k ∧ Q k H1 := by
  obtain ⟨ρ, θ, M, S, q⟩ := h
  refine rdE_seq (g := fun x _ M1 => match x with | .bl k => .ok k M1 | _ => .bad) S q fun x v H1 θ1 M1 S1 E1 r1 q1 => ?_
  cases x with
  | bl k => exact ⟨k, rep_bl r1, q1 H1 θ1 (Ext.refl _ _) S1.2⟩
  | _ => exact q1.elim
theorem dt_cmp {op : CmpOp} {g : Sto → D → D → Option D} (o : OpD G X (compareOp op) g) (ha : DE G X a fa) (hb : DE G X b fb) (hm : behindInMarks op b = false := by first | exact nomark _ | rfl) : DT G X (.Compare a [op] [b] pos) (dTst (dBin g fa fb)) := fun ok W tk => by
  refine (pt_cmpR (o ok) (ha ok W tk) (hb ok W tk) hm).imp fun σ H Q h => ?_
  obtain ⟨ρ, θ, M, S, q⟩ := tst_rd h
  exact bin_rd ⟨ρ, θ, M, S, q⟩
/-- any other expression as a test, a bool -/
theorem dt_val (h : DE G X e f) (he : ∀ whole, isTrue e X.env whole = (do let v ← whole; standAt e.pos; holding [v] (truthy v)) := by intro _; rfl) : DT G X e (dTst f) := fun ok W tk => (pt_val (h ok W tk) he).imp fun σ H Q h => tst_rd h
/-! ### and, or, not; a if t else b -/
def dAnd (t u : FE Bool) : FE Bool := fun ρ M => (t ρ M).bind fun c M1 => if c = true then u ρ M1 else .ok false M1
def dOr (t u : FE Bool) : FE Bool := fun ρ M => (t ρ M).bind fun c M1 => if c = true then .ok true M1 else u ρ M1
def dNot (t : FE Bool) : FE Bool := fun ρ M => (t ρ M).bind fun c M1 => .ok (!c) M1
variable {ta tb tc : FE Bool} {rest : List Expr}
theorem dw_and1 (ha : DT G X a ta) : DW G X (.BoolOp .And [a] pos) ta := fun ok W tk => pw_and1 (ha ok W tk)
theorem dw_or1 (ha : DT G X a ta) : DW G X (.BoolOp .Or [a] pos) ta := fun ok W tk => pw_or1 (ha ok W tk)
theorem dw_and (ha : DT G X a ta) (hb : DW G X (.BoolOp .And (b :: rest) pos) tb) : DW G X (.BoolOp .And (a :: b :: rest) pos) (dAnd ta tb) := fun ok W tk => by
  refine PW.imp (pw_and (ha ok W tk) (hb ok W tk)) fun σ H Q h => ?_
  obtain ⟨ρ, θ, M, S, q⟩ := h
  refine rdT_seq (g := fun c ρ M1 => if c = true then tb ρ M1 else .ok false M1) S q fun c H1 θ1 M1 S1 E1 q1 => ?_
  cases c with
  | true => exact ⟨ρ, θ1, M1, S1, q1⟩
  | false => exact q1 H1 θ1 (Ext.refl _ _) S1.2
theorem dw_or (ha : DT G X a ta) (hb : DW G X (.BoolOp .Or (b :: rest) pos) tb) : DW G X (.BoolOp .Or (a :: b :: rest) pos) (dOr ta tb) := fun ok W tk => by
  refine PW.imp (pw_or (ha ok W tk) (hb ok W tk)) fun σ H Q h => ?_
  obtain ⟨ρ, θ, M, S, q⟩ := h
  refine rdT_seq (g := fun c ρ M1 => if c = true then .ok true M1 else tb ρ M1) S q fun c H1 θ1 M1 S1 E1 q1 => ?_
  cases c with
  | true => exact q1 H1 θ1 (Ext.refl _ _) S1.2
  | false => exact ⟨ρ, θ1, M1, S1, q1⟩
theorem dt_of (h : DW G X e ta) : DT G X e ta := fun ok W tk => (h ok W tk).pt
theorem dt_not (ha : DT G X a ta) : DT G X (.UnaryOp .Not a pos) (dNot ta) := fun ok W tk => by
  refine PT.imp (pt_not (ha ok W tk)) fun σ H Q h => ?_
  obtain ⟨ρ, θ, M, S, q⟩ := h
  exact rdT_seq (g := fun c _ M1 => .ok (!c) M1) S q fun c H1 θ1 M1 S1 E1 q1 => q1 H1 θ1 (Ext.refl _ _) S1.2
/-- as values: all but the last are bools -/
def dAndV (fa fb : FE D) : FE D := fun ρ M => (fa ρ M).bind fun x M1 => match x with
  | .bl true => fb ρ M1
  | .bl false => .ok (.bl false) M1
  | _ => .bad
def dOrV (fa fb : FE D) : FE D := fun ρ M => (fa ρ M).bind fun x M1 => match x with
  | .bl false => fb ρ M1
  | .bl true => .ok (.bl true) M1
  | _ => .bad
def dNotV (fa : FE D) : FE D := fun ρ M => (fa ρ M).bind fun x M1 => match x with
  | .bl k => .ok (.bl (!k)) M1
  | _ => .bad
theorem de_one {op} (h : DE G X a f) : DE G X (.BoolOp op [a] pos) f := fun ok W tk => pe_one (h ok W tk)
theorem de_and (ha : DE G X a fa) (hb : DE G X (.BoolOp .And (b :: rest) pos) fb) : DE G X (.BoolOp .And (a :: b :: rest) pos) (dAndV fa fb) := fun ok W tk => by
  refine (pe_and (ha ok W tk) (hb ok W tk)).imp fun σ H Q h => ?_
  obtain ⟨ρ, θ, M, S, q⟩ := h
  refine rdE_seq (g := fun x ρ M1 => match x with | .bl true => fb ρ M1 | .bl false => .ok (D.bl false) M1 | _ => .bad) S q fun x v H1 θ1 M1 S1 E1 r1 q1 => ?_
  cases x with
  | bl k =>
    cases k with
    | true => exact ⟨true, rep_bl r1, iteT ⟨ρ, θ1, M1, S1, q1⟩⟩
    | false => exact ⟨false, rep_bl r1, iteF (q1 H1 θ1 (Ext.refl _ _) S1.2 _ (.bl false))⟩
  | _ => exact q1.elim
theorem de_or (ha : DE G X a fa) (hb : DE G X (.BoolOp .Or (b :: rest) pos) fb) : DE G X (.BoolOp .Or (a :: b :: rest) pos) (dOrV fa fb) := fun ok W tk => by
  refine (pe_or (ha ok W tk) (hb ok W tk)).imp fun σ H Q h => ?_
  obtain ⟨ρ, θ, M, S, q⟩ := h
  refine rdE_seq (g := fun x ρ M1 => match x with | .bl false => fb ρ M1 | .bl true => .ok (D.bl true) M1 | _ => .bad) S q fun x v H1 θ1 M1 S1 E1 r1 q1 => ?_
  cases x with
  | bl k =>
    cases k with
    | false => exact ⟨false, rep_bl r1, iteF ⟨ρ, θ1, M1, S1, q1⟩⟩
    | true => exact ⟨true, rep_bl r1, iteT (q1 H1 θ1 (Ext.refl _ _) S1.2 _ (.bl true))⟩
  | _ => exact q1.elim
theorem de_not (ha : DE G X a fa) : DE G X (.UnaryOp .Not a pos) (dNotV fa) := fun ok W tk => by
  refine (pe_not (ha ok W tk)).imp fun σ H Q h => ?_
  obtain ⟨ρ, θ, M, S, q⟩ := h
  refine rdE_seq (g := fun x _ M1 => match x with | .bl k => .ok (D.bl (!k)) M1 | _ => .bad) S q fun x v H1 θ1 M1 S1 E1 r1 q1 => ?_
  cases x with
  | bl k => exact ⟨k, rep_bl r1, q1 H1 θ1 (Ext.refl _ _) S1.2 _ (.bl _)⟩
  | _ => exact q1.elim
def dIf {α : Type} (t : FE Bool) (fa fb : FE α) : FE α := fun ρ M => (t ρ M).bind fun c M1 => if c = true then fa ρ M1 else fb ρ M1
theorem de_if (hc : DT G X c tc) (ha : DE G X a fa) (hb : DE G X b fb) : DE G X (.IfExp c a b pos) (dIf tc fa fb) := fun ok W tk => by
  refine (pe_ifExp (hc ok W tk) (ha ok W tk) (hb ok W tk)).imp fun σ H Q h => ?_
  obtain ⟨ρ, θ, M, S, q⟩ := h
  refine rdT_seq (g := fun c ρ M1 => if c = true then fa ρ M1 else fb ρ M1) S q fun c H1 θ1 M1 S1 E1 q1 => ?_
  cases c with
  | true => exact iteT ⟨ρ, θ1, M1, S1, q1⟩
  | false => exact iteF ⟨ρ, θ1, M1, S1, q1⟩
/-- not of a test, as a value -/
def dVal (t : FE Bool) : FE D := fun ρ M => (t ρ M).bind fun c M1 => .ok (.bl c) M1
/-! ### argument lists, tuples, lists -/
def dNil : FE (List D) := fun _ M => .ok [] M
def dCons (fa : FE D) (fr : FE (List D)) : FE (List D) := fun ρ M => (fa ρ M).bind fun x M1 => (fr ρ M1).bind fun xs M2 => .ok (x :: xs) M2
theorem da_nil : DA G X [] dNil := fun ok W tk => PA.imp pa_nil fun σ H Q h => by
  obtain ⟨ρ, θ, M, S, q⟩ := h
  exact q H θ (Ext.refl _ _) S.2 _ .nil
theorem da_cons {fr : FE (List D)} (ha : DE G X e fa) (hr : DA G X es fr) (hs : starEach (e :: es) X.env = (false, eval e X.env) :: starEach es X.env := by rfl) : DA G X (e :: es) (dCons fa fr) := fun ok W tk => by
  refine PA.imp (pa_cons (ha ok W tk) (hr ok W tk) hs) fun σ H Q h => ?_
  obtain ⟨ρ, θ, M, S, q⟩ := h
  refine rdE_seq (g := fun x ρ M1 => (fr ρ M1).bind fun xs M2 => .ok (x :: xs) M2) S q fun x v H1 θ1 M1 S1 E1 r1 q1 => ?_
  exact rdA_seq (g := fun xs _ M2 => .ok (x :: xs) M2) S1 q1 fun xs vs H2 θ2 M2 S2 E2 r2 q2 => q2 H2 θ2 (Ext.refl _ _) S2.2 _ (.cons (r1.ext E2) r2)
def dTup (fs : FE (List D)) : FE D := fun ρ M => (fs ρ M).bind fun xs M1 => if xs.length ≤ sizeLine then .ok (.tup xs) M1 else .bad
def dLst (fs : FE (List D)) : FE D := fun ρ M => (fs ρ M).bind fun xs M1 => if xs.length ≤ sizeLine then .ok (.lst xs) M1 else .bad
/-- .. a list that will change -/
def dLstO (fs : FE (List D)) : FE D := fun ρ M => (fs ρ M).bind fun xs M1 => if xs.length ≤ sizeLine then .ok (.own M1.length) (M1 ++ [.lst xs]) else .bad
theorem de_tup {x1} (h : DA G X es fs) : DE G X (.Tuple es x1 pos) (dTup fs) := fun ok W tk => by
  refine (pe_tup (h ok W tk)).imp fun σ H Q h => ?_
  obtain ⟨ρ, θ, M, S, q⟩ := h
  refine rdA_seq (g := fun xs _ M1 => if xs.length ≤ sizeLine then .ok (D.tup xs) M1 else .bad) S q fun xs vs H1 θ1 M1 S1 E1 r1 q1 => ?_
  by_cases hz : xs.length ≤ sizeLine
  · rw [if_pos hz] at q1
    exact ⟨by rw [r1.length]; exact hz, fun p hp => q1 _ θ1 (Ext.alloc hp _) (S1.2.alloc hp _) _ (new_tup S1.2 hp r1)⟩
  · rw [if_neg hz] at q1
    exact q1.elim
theorem de_lst (h : DA G X es fs) : DE G X (.List es pos) (dLst fs) := fun ok W tk => by
  refine (pe_lst (h ok W tk)).imp fun σ H Q h => ?_
  obtain ⟨ρ, θ, M, S, q⟩ := h
  refine rdA_seq (g := fun xs _ M1 => if xs.length ≤ sizeLine then .ok (D.lst xs) M1 else .bad) S q fun xs vs H1 θ1 M1 S1 E1 r1 q1 => ?_
  by_cases hz : xs.length ≤ sizeLine
  · rw [if_pos hz] at q1
    exact ⟨by rw [r1.length]; exact hz, fun p hp => q1 _ θ1 (Ext.alloc hp _) (S1.2.alloc hp _) _ (new_lst S1.2 hp r1)⟩
  · rw [if_neg hz] at q1
    exact q1.elim
theorem StoR.last {H : Hp} {θ : Th} {M : Sto} {p : Addr} (S : StoR G H θ M) : (θ.own p).lb[M.length]? = some p := by
  show (θ.lb ++ [p])[M.length]? = some p
  rw [List.getElem?_append_right (by rw [S.len]; exact Nat.le_refl _), S.len, Nat.sub_self]
  rfl
theorem de_lstO (h : DA G X es fs) : DE G X (.List es pos) (dLstO fs) := fun ok W tk => by
  refine (pe_lst (h ok W tk)).imp fun σ H Q h => ?_
  obtain ⟨ρ, θ, M, S, q⟩ := h
  refine rdA_seq (g := fun xs _ M1 => if xs.length ≤ sizeLine then .ok (D.own M1.length) (M1 ++ [.lst xs]) else .bad) S q fun xs vs H1 θ1 M1 S1 E1 r1 q1 => ?_
  by_cases hz : xs.length ≤ sizeLine
  · rw [if_pos hz] at q1
    refine ⟨by rw [r1.length]; exact hz, fun p hp => q1 _ (θ1.own p) (Ext.allocOwn hp _) (S1.2.push hp ⟨vs, upd_same, r1.ext (Ext.allocOwn hp _)⟩) _ (.own S1.2.last)⟩
  · rw [if_neg hz] at q1
    exact q1.elim
end
end DL
set_option maxHeartbeats 4000000
namespace DL
open PySem PySem.Spec PyProof.Rows L2
/-! ### data as the library's data -/
mutual
def toPy (M : Sto) : D → Option PyData
  | .non => some .none
  | .bl b => some (.bool b)
  | .int i => some (.int i)
  | .str x => some (.str x)
  | .tup xs => (toPys M xs).map .tuple
  | .lst xs => (toPys M xs).map .list
  | .flst xs => (toPys M xs).map .list
  | .own n => match M[n]? with
    | some (.lst xs) => (toPysF xs).map .list
    | _ => none
  | _ => none
def toPys (M : Sto) : List D → Option (List PyData)
  | [] => some []
  | x :: xs => match toPy M x, toPys M xs with
    | some d, some ds => some (d :: ds)
    | _, _ => none
/-- without changing objects -/
def toPyF : D → Option PyData
  | .non => some .none
  | .bl b => some (.bool b)
  | .int i => some (.int i)
  | .str x => some (.str x)
  | .tup xs => (toPysF xs).map .tuple
  | .lst xs => (toPysF xs).map .list
  | .flst xs => (toPysF xs).map .list
  | _ => none
def toPysF : List D → Option (List PyData)
  | [] => some []
  | x :: xs => match toPyF x, toPysF xs with
    | some d, some ds => some (d :: ds)
    | _, _ => none
end
section
variable {G : Cfg} {H : Hp} {θ : Th} {M : Sto}
mutual
theorem rep_dpF (S : StoR G H θ M) : ∀ {d : D} {v : V} {e : PyData}, Rep G H θ v d → toPyF d = some e → Dp G.K H v e
  | .non, v, e, r, h => by cases h; cases r; exact .non
  | .bl b, v, e, r, h => by cases h; cases r; exact .bl b
  | .int i, v, e, r, h => by cases h; cases r; exact .int i
  | .str x, v, e, r, h => by cases h; cases r; exact .str x
  | .tup xs, v, e, r, h => by
    obtain ⟨ds, h1, h2⟩ := Option.map_eq_some_iff.mp h
    subst h2
    obtain ⟨a, vs, rfl, hq, rs⟩ := rep_tup r
    exact .tup hq (reps_dpF S rs h1)
  | .lst xs, v, e, r, h => by
    obtain ⟨ds, h1, h2⟩ := Option.map_eq_some_iff.mp h
    subst h2
    obtain ⟨a, vs, rfl, hq, rs⟩ := rep_lst S r rfl
    exact .lst hq (reps_dpF S rs h1)
  | .flst xs, v, e, r, h => by
    obtain ⟨ds, h1, h2⟩ := Option.map_eq_some_iff.mp h
    subst h2
    obtain ⟨a, vs, rfl, hq, rs⟩ := rep_lst S r rfl
    exact .lst hq (reps_dpF S rs h1)
  | .dic _ _, _, _, _, h => by cases h
  | .obj _ _ _, _, _, _, h => by cases h
  | .exc _ _ _, _, _, _, h => by cases h
  | .own _, _, _, _, h => by cases h
theorem reps_dpF (S : StoR G H θ M) : ∀ {ds : List D} {vs : List V} {es : List PyData}, Reps G H θ vs ds → toPysF ds = some es → DpAll G.K H vs es
  | [], vs, es, r, h => by cases h; cases r; exact .nil
  | x :: xs, vs, es, r, h => by
    cases r with
    | cons r rs =>
      have h2 : (match toPyF x, toPysF xs with | some d, some ds => some (d :: ds) | _, _ => none) = some es := h
      split at h2
      · rename_i d ds e1 e2
        cases h2
        exact .cons (rep_dpF S r e1) (reps_dpF S rs e2)
      · cases h2
end
mutual
theorem rep_dp (S : StoR G H θ M) : ∀ {d : D} {v : V} {e : PyData}, Rep G H θ v d → toPy M d = some e → Dp G.K H v e
  | .non, v, e, r, h => by cases h; cases r; exact .non
  | .bl b, v, e, r, h => by cases h; cases r; exact .bl b
  | .int i, v, e, r, h => by cases h; cases r; exact .int i
  | .str x, v, e, r, h => by cases h; cases r; exact .str x
  | .tup xs, v, e, r, h => by
    obtain ⟨ds, h1, h2⟩ := Option.map_eq_some_iff.mp h
    subst h2
    obtain ⟨a, vs, rfl, hq, rs⟩ := rep_tup r
    exact .tup hq (reps_dp S rs h1)
  | .lst xs, v, e, r, h => by
    obtain ⟨ds, h1, h2⟩ := Option.map_eq_some_iff.mp h
    subst h2
    obtain ⟨a, vs, rfl, hq, rs⟩ := rep_lst S r rfl
    exact .lst hq (reps_dp S rs h1)
  | .flst xs, v, e, r, h => by
    obtain ⟨ds, h1, h2⟩ := Option.map_eq_some_iff.mp h
    subst h2
    obtain ⟨a, vs, rfl, hq, rs⟩ := rep_lst S r rfl
    exact .lst hq (reps_dp S rs h1)
  | .own n, v, e, r, h => by
    have h2 : (match M[n]? with | some (.lst xs) => (toPysF xs).map PyData.list | _ => none) = some e := h
    split at h2
    · rename_i xs hm
      obtain ⟨ds, h3, h4⟩ := Option.map_eq_some_iff.mp h2
      subst h4
      obtain ⟨a, vs, rfl, hq, rs⟩ := rep_lst S r (show lstOf M (.own n) = some xs from by simp [lstOf, hm])
      exact .lst hq (reps_dpF S rs h3)
    · cases h2
  | .dic _ _, _, _, _, h => by cases h
  | .obj _ _ _, _, _, _, h => by cases h
  | .exc _ _ _, _, _, _, h => by cases h
theorem reps_dp (S : StoR G H θ M) : ∀ {ds : List D} {vs : List V} {es : List PyData}, Reps G H θ vs ds → toPys M ds = some es → DpAll G.K H vs es
  | [], vs, es, r, h => by cases h; cases r; exact .nil
  | x :: xs, vs, es, r, h => by
    cases r with
    | cons r rs =>
      have h2 : (match toPy M x, toPys M xs with | some d, some ds => some (d :: ds) | _, _ => none) = some es := h
      split at h2
      · rename_i d ds e1 e2
        cases h2
        exact .cons (rep_dp S r e1) (reps_dp S rs e2)
      · cases h2
end
end
/-! ### arithmetic -/
def gAdd (M : Sto) (x y : D) : Option D := match x, y with
  | .int i, .int j => some (.int (i + j))
  | .str a, .str b => if a.length + b.length ≤ sizeLine then some (.str (a ++ b)) else none
  | .tup as, .tup bs => if as.length + bs.length ≤ sizeLine then some (.tup (as ++ bs)) else none
  | .lst as, .lst bs => if as.length + bs.length ≤ sizeLine then some (.lst (as ++ bs)) else none
  | _, _ => none
def gSub (_ : Sto) (x y : D) : Option D := match x, y with
  | .int i, .int j => some (.int (i - j))
  | _, _ => none
def gMul (_ : Sto) (x y : D) : Option D := match x, y with
  | .int i, .int j => if i.natAbs.log2 + j.natAbs.log2 < 1000000 then some (.int (i * j)) else none
  | _, _ => none
def gDiv (_ : Sto) (x y : D) : Option D := match x, y with
  | .int i, .int j => if 0 < j ∧ j.natAbs.log2 < 9000 then some (.int (i / j)) else none
  | _, _ => none
def gMod (_ : Sto) (x y : D) : Option D := match x, y with
  | .int i, .int j => if 0 < j then some (.int (i % j)) else none
  | _, _ => none
def gPow (_ : Sto) (x y : D) : Option D := match x, y with
  | .int i, .int j => if 0 ≤ j ∧ j ≤ 1000000 ∧ i.natAbs < 2 ^ 64 then some (.int (i ^ j.toNat)) else none
  | _, _ => none
section
variable {G : Cfg} {X : Cx}
theorem rep_lst0 {H : Hp} {θ : Th} {v : V} {ds : List D} (r : Rep G H θ v (.lst ds)) : ∃ a xs, v = .ref a ∧ H a = some (.lst xs) ∧ Reps G H θ xs ds := by
  cases r with
  | lst h n r => exact ⟨_, _, rfl, h, r⟩
theorem od_add : OpD G X (binaryOp .Add) gAdd := fun ok => by
  intro pins s σ H x y v u Q I rx ry h
  obtain ⟨θ, M, dx, dy, d, S, r1, r2, hg, q⟩ := h
  unfold gAdd at hg
  split at hg
  · cases hg
    cases rep_int r1; cases rep_int r2
    exact op_add pins s σ H _ _ v u Q I rx ry ⟨_, _, rfl, rfl, q _ H (Ext.refl _ _) S (.int _)⟩
  · split at hg
    · rename_i hz
      cases hg
      cases rep_str r1; cases rep_str r2
      exact op_add_str pins s σ H _ _ v u Q I rx ry ⟨_, _, rfl, rfl, hz, q _ H (Ext.refl _ _) S (.str _)⟩
    · cases hg
  · split at hg
    · rename_i as bs hz
      cases hg
      obtain ⟨a, xs, rfl, ha, ra⟩ := rep_tup r1
      obtain ⟨b, ys, rfl, hb, rb⟩ := rep_tup r2
      rw [ok.hk] at ha hb
      refine op_catA pins s σ H _ _ v u Q I rx ry ⟨a, b, xs, ys, rfl, rfl, ha, hb, by rw [ra.length, rb.length]; exact hz, fun e => ?_, fun _ e => ?_, fun _ _ p hp => ?_⟩
      · subst e
        cases ra
        exact q _ H (Ext.refl _ _) S r2
      · subst e
        cases rb
        rw [List.append_nil] at q
        exact q _ H (Ext.refl _ _) S r1
      · exact q _ _ (Ext.alloc hp _) (S.alloc hp _) (new_tup S hp (ra.append rb))
    · cases hg
  · split at hg
    · rename_i as bs hz
      cases hg
      obtain ⟨a, xs, rfl, ha, ra⟩ := rep_lst0 r1
      obtain ⟨b, ys, rfl, hb, rb⟩ := rep_lst0 r2
      exact op_cat pins s σ H _ _ v u Q I rx ry ⟨a, b, xs, ys, rfl, rfl, ha, hb, by rw [ra.length, rb.length]; exact hz, fun p hp => q _ _ (Ext.alloc hp _) (S.alloc hp _) (new_lst S hp (ra.append rb))⟩
    · cases hg
  · cases hg
theorem od_sub : OpD G X (binaryOp .Sub) gSub := fun ok => by
  intro pins s σ H x y v u Q I rx ry h
  obtain ⟨θ, M, dx, dy, d, S, r1, r2, hg, q⟩ := h
  unfold gSub at hg
  split at hg
  · cases hg
    cases rep_int r1; cases rep_int r2
    exact op_sub pins s σ H _ _ v u Q I rx ry ⟨_, _, rfl, rfl, q _ H (Ext.refl _ _) S (.int _)⟩
  · cases hg
theorem od_mul : OpD G X (binaryOp .Mult) gMul := fun ok => by
  intro pins s σ H x y v u Q I rx ry h
  obtain ⟨θ, M, dx, dy, d, S, r1, r2, hg, q⟩ := h
  unfold gMul at hg
  split at hg
  · split at hg
    · rename_i hz
      cases hg
      cases rep_int r1; cases rep_int r2
      exact op_mulW pins s σ H _ _ v u Q I rx ry ⟨_, _, rfl, rfl, hz, q _ H (Ext.refl _ _) S (.int _)⟩
    · cases hg
  · cases hg
theorem od_div : OpD G X (binaryOp .FloorDiv) gDiv := fun ok => by
  intro pins s σ H x y v u Q I rx ry h
  obtain ⟨θ, M, dx, dy, d, S, r1, r2, hg, q⟩ := h
  unfold gDiv at hg
  split at hg
  · split at hg
    · rename_i hz
      cases hg
      cases rep_int r1; cases rep_int r2
      exact op_fdivW pins s σ H _ _ v u Q I rx ry ⟨_, _, rfl, rfl, hz, q _ H (Ext.refl _ _) S (.int _)⟩
    · cases hg
  · cases hg
theorem od_mod : OpD G X (binaryOp .Mod) gMod := fun ok => by
  intro pins s σ H x y v u Q I rx ry h
  obtain ⟨θ, M, dx, dy, d, S, r1, r2, hg, q⟩ := h
  unfold gMod at hg
  split at hg
  · split at hg
    · rename_i hz
      cases hg
      cases rep_int r1; cases rep_int r2
      exact op_mod pins s σ H _ _ v u Q I rx ry ⟨_, _, rfl, rfl, hz, q _ H (Ext.refl _ _) S (.int _)⟩
    · cases hg
  · cases hg
theorem od_pow : OpD G X (binaryOp .Pow) gPow := fun ok => by
  intro pins s σ H x y v u Q I rx ry h
  obtain ⟨θ, M, dx, dy, d, S, r1, r2, hg, q⟩ := h
  unfold gPow at hg
  split at hg
  · split at hg
    · rename_i hz
      cases hg
      cases rep_int r1; cases rep_int r2
      exact op_pow pins s σ H _ _ v u Q I rx ry ⟨_, _, rfl, rfl, hz, q _ H (Ext.refl _ _) S (.int _)⟩
    · cases hg
  · cases hg
/-! ### comparisons -/
def flatEq : D → D → Option Bool
  | .int i, .int j => some (decide (i = j))
  | .str i, .str j => some (decide (i = j))
  | .bl i, .bl j => some (decide (i = j))
  | _, _ => none
def gEqB (neg : Bool) (M : Sto) (x y : D) : Option D := match flatEq x y with
  | some b => some (.bl (if neg then !b else b))
  | none => match toPy M x, toPy M y with
    | some d, some e => if SeqAt.shaped d = true ∧ SeqAt.shaped e = true then some (.bl (if neg then !PyData.eqv d e else PyData.eqv d e)) else none
    | _, _ => none
abbrev gEq := gEqB false
abbrev gNe := gEqB true
theorem flat_rd {G : Cfg} {H : Hp} {θ : Th} {x y : V} {dx dy : D} {b : Bool} (r1 : Rep G H θ x dx) (r2 : Rep G H θ y dy) (h : flatEq dx dy = some b) : scal x y = true ∧ decide (x = y) = b := by
  unfold flatEq at h
  split at h
  · cases h; cases rep_int r1; cases rep_int r2; exact ⟨rfl, by simp⟩
  · cases h; cases rep_str r1; cases rep_str r2; exact ⟨rfl, by simp⟩
  · cases h; cases rep_bl r1; cases rep_bl r2; exact ⟨rfl, by simp⟩
  · cases h
theorem od_eq : OpD G X (compareOp .Eq) gEq := fun ok => by
  intro pins s σ H x y v u Q I rx ry h
  obtain ⟨θ, M, dx, dy, d, S, r1, r2, hg, q⟩ := h
  unfold gEq gEqB at hg
  split at hg
  · rename_i b hb
    cases hg
    obtain ⟨h1, h2⟩ := flat_rd r1 r2 hb
    exact op_eq pins s σ H _ _ v u Q I rx ry ⟨h1, q _ H (Ext.refl _ _) S (by rw [h2]; exact .bl b)⟩
  · split at hg
    · rename_i d1 e1 h1 h2
      split at hg
      · rename_i hz
        cases hg
        have p1 := rep_dp S r1 h1
        have p2 := rep_dp S r2 h2
        rw [ok.hk] at p1 p2
        exact op_eqD (by have := ok.hu; omega) pins s σ H _ _ v u Q I rx ry ⟨_, _, p1, p2, hz.1, hz.2, q _ H (Ext.refl _ _) S (.bl _)⟩
      · cases hg
    · cases hg
theorem od_ne : OpD G X (compareOp .NotEq) gNe := fun ok => by
  intro pins s σ H x y v u Q I rx ry h
  obtain ⟨θ, M, dx, dy, d, S, r1, r2, hg, q⟩ := h
  unfold gNe gEqB at hg
  split at hg
  · rename_i b hb
    cases hg
    obtain ⟨h1, h2⟩ := flat_rd r1 r2 hb
    exact op_ne pins s σ H _ _ v u Q I rx ry ⟨h1, q _ H (Ext.refl _ _) S (by rw [h2]; exact .bl (!b))⟩
  · split at hg
    · rename_i d1 e1 h1 h2
      split at hg
      · rename_i hz
        cases hg
        have p1 := rep_dp S r1 h1
        have p2 := rep_dp S r2 h2
        rw [ok.hk] at p1 p2
        exact op_neD (by have := ok.hu; omega) pins s σ H _ _ v u Q I rx ry ⟨_, _, p1, p2, hz.1, hz.2, q _ H (Ext.refl _ _) S (.bl _)⟩
      · cases hg
    · cases hg
def gLt (_ : Sto) (x y : D) : Option D := match x, y with
  | .int i, .int j => some (.bl (decide (i < j)))
  | .str a, .str b => some (.bl (decide (a.cps.toList < b.cps.toList)))
  | _, _ => none
def gLe (_ : Sto) (x y : D) : Option D := match x, y with
  | .int i, .int j => some (.bl (decide (i ≤ j)))
  | _, _ => none
def gGt (_ : Sto) (x y : D) : Option D := match x, y with
  | .int i, .int j => some (.bl (decide (j < i)))
  | _, _ => none
def gGe (_ : Sto) (x y : D) : Option D := match x, y with
  | .int i, .int j => some (.bl (decide (j ≤ i)))
  | _, _ => none
theorem od_lt : OpD G X (compareOp .Lt) gLt := fun ok => by
  intro pins s σ H x y v u Q I rx ry h
  obtain ⟨θ, M, dx, dy, d, S, r1, r2, hg, q⟩ := h
  unfold gLt at hg
  split at hg
  · cases hg
    cases rep_int r1; cases rep_int r2
    exact op_lt pins s σ H _ _ v u Q I rx ry ⟨_, _, rfl, rfl, q _ H (Ext.refl _ _) S (.bl _)⟩
  · cases hg
    cases rep_str r1; cases rep_str r2
    exact op_lt_str pins s σ H _ _ v u Q I rx ry ⟨_, _, rfl, rfl, q _ H (Ext.refl _ _) S (.bl _)⟩
  · cases hg
theorem od_le : OpD G X (compareOp .LtE) gLe := fun ok => by
  intro pins s σ H x y v u Q I rx ry h
  obtain ⟨θ, M, dx, dy, d, S, r1, r2, hg, q⟩ := h
  unfold gLe at hg
  split at hg
  · cases hg
    cases rep_int r1; cases rep_int r2
    exact op_le pins s σ H _ _ v u Q I rx ry ⟨_, _, rfl, rfl, q _ H (Ext.refl _ _) S (.bl _)⟩
  · cases hg
theorem od_gt : OpD G X (compareOp .Gt) gGt := fun ok => by
  intro pins s σ H x y v u Q I rx ry h
  obtain ⟨θ, M, dx, dy, d, S, r1, r2, hg, q⟩ := h
  unfold gGt at hg
  split at hg
  · cases hg
    cases rep_int r1; cases rep_int r2
    exact op_gt pins s σ H _ _ v u Q I rx ry ⟨_, _, rfl, rfl, q _ H (Ext.refl _ _) S (.bl _)⟩
  · cases hg
theorem od_ge : OpD G X (compareOp .GtE) gGe := fun ok => by
  intro pins s σ H x y v u Q I rx ry h
  obtain ⟨θ, M, dx, dy, d, S, r1, r2, hg, q⟩ := h
  unfold gGe at hg
  split at hg
  · cases hg
    cases rep_int r1; cases rep_int r2
    exact op_ge pins s σ H _ _ v u Q I rx ry ⟨_, _, rfl, rfl, q _ H (Ext.refl _ _) S (.bl _)⟩
  · cases hg
/-- is: of None or of a bool, on the right -/
def isNon : D → Bool
  | .non => true
  | _ => false
def isB (x y : D) : Option Bool := match y with
  | .non => some (isNon x)
  | .bl b => match x with
    | .bl a => some (decide (a = b))
    | _ => none
  | _ => none
def gIs (_ : Sto) (x y : D) : Option D := (isB x y).map .bl
def gIsNot (_ : Sto) (x y : D) : Option D := (isB x y).map fun b => .bl (!b)
theorem rep_isnon {H : Hp} {θ : Th} {v : V} {d : D} (r : Rep G H θ v d) : decide (v = .non) = isNon d := by
  cases r <;> first | rfl | exact decide_eq_false (fun z => by cases z)
theorem od_is : OpD G X (compareOp .Is) gIs := fun ok => by
  intro pins s σ H x y v u Q I rx ry h
  obtain ⟨θ, M, dx, dy, d, S, r1, r2, hg, q⟩ := h
  obtain ⟨b, hb, hd⟩ := Option.map_eq_some_iff.mp hg
  subst hd
  unfold isB at hb
  split at hb
  · cases rep_non r2
    refine op_isN pins s σ H _ _ v u Q I rx ry ⟨rfl, ?_⟩
    rw [rep_isnon r1]
    cases hb
    exact q _ H (Ext.refl _ _) S (.bl _)
  · split at hb
    · cases hb
      cases rep_bl r1; cases rep_bl r2
      exact op_isBl pins s σ H _ _ v u Q I rx ry ⟨_, _, rfl, rfl, q _ H (Ext.refl _ _) S (.bl _)⟩
    · cases hb
  · cases hb
theorem od_isnot : OpD G X (compareOp .IsNot) gIsNot := fun ok => by
  intro pins s σ H x y v u Q I rx ry h
  obtain ⟨θ, M, dx, dy, d, S, r1, r2, hg, q⟩ := h
  obtain ⟨b, hb, hd⟩ := Option.map_eq_some_iff.mp hg
  subst hd
  unfold isB at hb
  split at hb
  · cases rep_non r2
    refine op_notN pins s σ H _ _ v u Q I rx ry ⟨rfl, ?_⟩
    rw [rep_isnon r1]
    cases hb
    exact q _ H (Ext.refl _ _) S (.bl _)
  · split at hb
    · cases hb
      cases rep_bl r1; cases rep_bl r2
      exact op_notBl pins s σ H _ _ v u Q I rx ry ⟨_, _, rfl, rfl, q _ H (Ext.refl _ _) S (.bl _)⟩
    · cases hb
  · cases hb
end
end DL
set_option maxHeartbeats 4000000
namespace DL
open PySem PySem.Spec PyProof.Rows L2
section
variable {G : Cfg} {H : Hp} {θ : Th} {M : Sto}
theorem ixN_len {n m : Nat} (h : n = m) (i : Int) : ixN n i = ixN m i := by rw [h]
theorem reps_at {xs : List V} {ds : List D} {i : Int} {d : D} (r : Reps G H θ xs ds) (h : atI ds i = some d) : ∃ v, atI xs i = some v ∧ Rep G H θ v d := by
  unfold atI at h ⊢
  rw [ixN_len r.length]
  cases e : ixN ds.length i with
  | none => rw [e] at h; cases h
  | some j =>
    rw [e] at h
    exact r.get h
end
/-! ### subscripts -/
def gIx (M : Sto) (x y : D) : Option D := match y with
  | .int i => match x with
    | .str z => if z.length ≤ sizeLine then (atI z.cps.toList i).map fun c => .str ⟨#[c]⟩ else none
    | x => match seqOf M x with
      | some ds => atI ds i
      | none => none
  | _ => none
section
variable {G : Cfg} {X : Cx} {a b c e : Expr} {es : List Expr} {fa fb fc f : FE D} {fs : FE (List D)} {pos : Pos}
theorem ix_rd (ok : Okc G X) : IxR X (rOp G gIx) := by
  intro value slice pins s σ H x y v u Q I rx ry h hs
  obtain ⟨θ, M, dx, dy, d, S, r1, r2, hg, q⟩ := h
  unfold gIx at hg
  split at hg
  · rename_i i
    cases rep_int r2
    split at hg
    · split at hg
      · rename_i hz
        obtain ⟨c, h1, h2⟩ := Option.map_eq_some_iff.mp hg
        subst h2
        cases rep_str r1
        exact ix_str value slice pins s σ H _ _ v u Q I rx ry ⟨_, _, c, rfl, rfl, hz, h1, q _ H (Ext.refl _ _) S (.str _)⟩ hs
      · cases hg
    · split at hg
      · rename_i ds hd
        obtain ⟨p, xs, rfl, hp, r⟩ := rep_seq S r1 hd
        obtain ⟨w, h1, h2⟩ := reps_at r hg
        rw [ok.hk] at hp
        rcases hp with hp | hp
        · exact ix_list value slice pins s σ H _ _ v u Q I rx ry ⟨p, xs, _, w, rfl, rfl, hp, h1, q _ H (Ext.refl _ _) S h2⟩ hs
        · exact ix_tup value slice pins s σ H _ _ v u Q I rx ry ⟨p, xs, _, w, rfl, rfl, hp, h1, q _ H (Ext.refl _ _) S h2⟩ hs
      · cases hg
  · cases hg
theorem de_ix (ha : DE G X a fa) (hb : DE G X b fb) (hs : PlainIx b := by exact fun _ _ => rfl) : DE G X (.Subscript a b pos) (dBin gIx fa fb) := fun ok W tk =>
  (pe_ix (ix_rd ok) (ha ok W tk) (hb ok W tk) hs).imp fun σ H Q h => bin_rd h
/-! ### -e -/
def dNeg (fa : FE D) : FE D := fun ρ M => (fa ρ M).bind fun x M1 => match x with
  | .int i => .ok (.int (-i)) M1
  | _ => .bad
theorem de_neg (ha : DE G X a fa) : DE G X (.UnaryOp .USub a pos) (dNeg fa) := fun ok W tk => by
  refine (pe_un un_neg (ha ok W tk)).imp fun σ H Q h => ?_
  obtain ⟨ρ, θ, M, S, q⟩ := h
  refine rdE_seq (g := fun x _ M1 => match x with | .int i => .ok (D.int (-i)) M1 | _ => .bad) S q fun x v H1 θ1 M1 S1 E1 r1 q1 => ?_
  cases x with
  | int i => exact ⟨i, rep_int r1, q1 H1 θ1 (Ext.refl _ _) S1.2 _ (.int _)⟩
  | _ => exact q1.elim
/-! ### a op b op' c -/
def dChain (g g' : Sto → D → D → Option D) (fa fb fc : FE D) : FE D := fun ρ M => (fa ρ M).bind fun x M1 => (fb ρ M1).bind fun y M2 => match g M2 x y with
  | some (.bl true) => (fc ρ M2).bind fun z M3 => .ofO (g' M3 y z) M3
  | some (.bl false) => .ok (.bl false) M2
  | _ => .bad
theorem chain_rd {W : WX} {g g' : Sto → D → D → Option D} {σ : L2.St} {H : Hp} {Q : VK} (h : rdE G W (dChain g g' fa fb fc) σ H Q) : tChain (rOp G g) (rOp G g') (rdE G W fa) (rdE G W fb) (rdE G W fc) σ H Q := by
  obtain ⟨ρ, θ, M, S, q⟩ := h
  refine rdE_seq (g := fun x ρ M1 => (fb ρ M1).bind fun y M2 => match g M2 x y with | some (.bl true) => (fc ρ M2).bind fun z M3 => .ofO (g' M3 y z) M3 | some (.bl false) => .ok (D.bl false) M2 | _ => .bad) S q fun x v H1 θ1 M1 S1 E1 r1 q1 => ?_
  refine rdE_seq (g := fun y ρ M2 => match g M2 x y with | some (.bl true) => (fc ρ M2).bind fun z M3 => .ofO (g' M3 y z) M3 | some (.bl false) => .ok (D.bl false) M2 | _ => .bad) S1 q1 fun y u H2 θ2 M2 S2 E2 r2 q2 => ?_
  refine ⟨θ2, M2, x, y, ?_⟩
  split at q2
  · rename_i e
    refine ⟨.bl true, S2.2, r1.ext E2, r2, e, fun w H3 E3 S3 r3 => ⟨true, rep_bl r3, iteT ?_⟩⟩
    refine rdE_seq (g := fun z _ M3 => .ofO (g' M3 y z) M3) ⟨S2.1.ext E3, S3⟩ (postR.base q2 E3) fun z w' H4 θ4 M4 S4 E4 r4 q4 => ?_
    cases e4 : g' M4 y z with
    | none => rw [e4] at q4; exact q4.elim
    | some d =>
      rw [e4] at q4
      exact ⟨θ4, M4, y, z, d, S4.2, (r2.ext E3).ext E4, r4, e4, fun v' H' E' S' r' => q4 H' θ4 E' S' v' r'⟩
  · rename_i e
    exact ⟨.bl false, S2.2, r1.ext E2, r2, e, fun w H3 E3 S3 r3 => ⟨false, rep_bl r3, iteF (q2 H3 θ2 E3 S3 _ (.bl false))⟩⟩
  · exact q2.elim
theorem de_chain {op op' : CmpOp} {g g' : Sto → D → D → Option D} (o : OpD G X (compareOp op) g) (o' : OpD G X (compareOp op') g') (ha : DE G X a fa) (hb : DE G X b fb) (hc : DE G X c fc)
    (hm : lastMarks [op, op'] [b, c] = false := by with_unfolding_all rfl) : DE G X (.Compare a [op, op'] [b, c] pos) (dChain g g' fa fb fc) := fun ok W tk =>
  (pe_chain (o ok) (o' ok) (ha ok W tk) (hb ok W tk) (hc ok W tk) hm).imp fun σ H Q h => chain_rd h
theorem dt_chain {op op' : CmpOp} {g g' : Sto → D → D → Option D} (o : OpD G X (compareOp op) g) (o' : OpD G X (compareOp op') g') (ha : DE G X a fa) (hb : DE G X b fb) (hc : DE G X c fc)
    (hm : lastMarks [op, op'] [b, c] = false := by with_unfolding_all rfl) : DT G X (.Compare a [op, op'] [b, c] pos) (dTst (dChain g g' fa fb fc)) := fun ok W tk => by
  refine (pt_chain (o ok) (o' ok) (ha ok W tk) (hb ok W tk) (hc ok W tk) hm).imp fun σ H Q h => ?_
  obtain ⟨ρ, θ, M, S, q⟩ := tst_rd h
  exact chain_rd ⟨ρ, θ, M, S, q⟩
/-! ### slices -/
def DO (G : Cfg) (X : Cx) (e : Option Expr) (f : FE (Option Int)) : Prop := Okc G X → ∀ W, Takes X W → PO X e fun σ H Q => ∃ ρ θ M, StR G σ H ρ θ M ∧ postR G W σ H θ (fun H' _ _ o => Q o H') (f ρ M)
def dNoPart : FE (Option Int) := fun _ M => .ok none M
def dPart (f : FE D) : FE (Option Int) := fun ρ M => (f ρ M).bind fun x M1 => match x with
  | .int i => .ok (some i) M1
  | _ => .bad
theorem do_none : DO G X none dNoPart := fun ok W tk => ⟨fun pins s σ H Q I h => by
  obtain ⟨ρ, θ, M, S, q⟩ := h
  exact po_none.run pins s σ H Q I (q H θ (Ext.refl _ _) S.2)⟩
theorem do_some (h : DE G X e f) : DO G X (some e) (dPart f) := fun ok W tk => ⟨fun pins s σ H Q I h' => by
  obtain ⟨ρ, θ, M, S, q⟩ := h'
  refine (po_some (h ok W tk)).run pins s σ H Q I ?_
  refine rdE_seq (g := fun x _ M1 => match x with | .int i => .ok (some i) M1 | _ => .bad) S q fun x v H1 θ1 M1 S1 E1 r1 q1 => ?_
  cases x with
  | int i => exact ⟨i, rep_int r1, q1 H1 θ1 (Ext.refl _ _) S1.2⟩
  | _ => exact q1.elim⟩
def cut {α : Type} (xs : List α) (lo hi : Option Int) : List α := (xs.drop (HT.sIx xs.length 0 lo)).take (HT.sIx xs.length xs.length hi - HT.sIx xs.length 0 lo)
def gSl (M : Sto) (x : D) (lo hi : Option Int) : Option D := match x with
  | .str z => if z.length ≤ sizeLine then some (.str (cutS z lo hi)) else none
  | .tup ds => some (.tup (cut ds lo hi))
  | x => (lstOf M x).map fun ds => .lst (cut ds lo hi)
def rSlD (G : Cfg) : V → Option Int → Option Int → Hp → VK → Prop := fun x lo hi H Q => ∃ θ M dx d, StoR G H θ M ∧ Rep G H θ x dx ∧ gSl M dx lo hi = some d ∧ ∀ v H', Ext H θ H' θ → StoR G H' θ M → Rep G H' θ v d → Q v H'
theorem cut_reps {H : Hp} {θ : Th} {xs : List V} {ds : List D} (r : Reps G H θ xs ds) (lo hi : Option Int) : Reps G H θ (cutV xs lo hi) (cut ds lo hi) := by
  unfold cutV cut
  rw [r.length]
  exact (r.drop _).take _
theorem sl_rd (ok : Okc G X) : SlR X (rSlD G) := by
  intro pins s σ H x v vl vu lo hi sl Q I rx hs pl pu h
  obtain ⟨θ, M, dx, d, S, r1, hg, q⟩ := h
  unfold gSl at hg
  split at hg
  · split at hg
    · rename_i hz
      cases hg
      cases rep_str r1
      exact sl_str pins s σ H _ v vl vu lo hi sl Q I rx hs pl pu ⟨_, rfl, hz, q _ H (Ext.refl _ _) S (.str _)⟩
    · cases hg
  · rename_i ds
    cases hg
    obtain ⟨p, xs, rfl, hp, r⟩ := rep_tup r1
    rw [ok.hk] at hp
    refine sl_tupA pins s σ H _ v vl vu lo hi sl Q I rx hs pl pu ⟨p, xs, rfl, hp, fun z => ?_, fun z p hp => q _ _ (Ext.alloc hp _) (S.alloc hp _) (new_tup S hp (cut_reps r lo hi))⟩
    have e : cut ds lo hi = ds := by
      unfold cut
      rw [r.length] at z
      rw [z.1, z.2]
      simp
    rw [e] at q
    exact q _ H (Ext.refl _ _) S r1
  · obtain ⟨ds, h1, h2⟩ := Option.map_eq_some_iff.mp hg
    subst h2
    obtain ⟨p, xs, rfl, hp, r⟩ := rep_lst S r1 h1
    rw [ok.hk] at hp
    exact sl_list pins s σ H _ v vl vu lo hi sl Q I rx hs pl pu ⟨p, xs, rfl, hp, fun p hp => q _ _ (Ext.alloc hp _) (S.alloc hp _) (new_lst S hp (cut_reps r lo hi))⟩
def dSl (fa : FE D) (fl fh : FE (Option Int)) : FE D := fun ρ M => (fa ρ M).bind fun x M1 => (fl ρ M1).bind fun l M2 => (fh ρ M2).bind fun h M3 => .ofO (gSl M3 x l h) M3
theorem de_slice {lo hi : Option Expr} {fl fh : FE (Option Int)} {p2 : Pos} (ha : DE G X a fa) (hl : DO G X lo fl) (hh : DO G X hi fh) : DE G X (.Subscript a (.Slice lo hi none p2) pos) (dSl fa fl fh) := fun ok W tk => by
  refine (pe_slice (sl_rd ok) (ha ok W tk) (hl ok W tk) (hh ok W tk)).imp fun σ H Q h => ?_
  obtain ⟨ρ, θ, M, S, q⟩ := h
  refine rdE_seq (g := fun x ρ M1 => (fl ρ M1).bind fun l M2 => (fh ρ M2).bind fun h M3 => .ofO (gSl M3 x l h) M3) S q fun x v H1 θ1 M1 S1 E1 r1 q1 => ?_
  refine ⟨ρ, θ1, M1, S1, q1.seq fun l M2 H2 θ2 E2 S2 q2 => ?_⟩
  refine ⟨ρ, θ2, M2, S1.ext E2 S2, q2.seq fun h M3 H3 θ3 E3 S3 q3 => ?_⟩
  cases e : gSl M3 x l h with
  | none => rw [e] at q3; exact q3.elim
  | some d =>
    rw [e] at q3
    exact ⟨θ3, M3, x, d, S3, (r1.ext E2).ext E3, e, fun v H' E' S' r => q3 H' θ3 E' S' v r⟩
/-! ### calls of what is built in -/
def rCall (G : Cfg) (g : Sto → List D → Option D) : List V → Hp → VK → Prop := fun vs H Q => ∃ θ M ds d, StoR G H θ M ∧ Reps G H θ vs ds ∧ g M ds = some d ∧ ∀ v H', Ext H θ H' θ → StoR G H' θ M → Rep G H' θ v d → Q v H'
def CallD (G : Cfg) (X : Cx) (f : Value) (g : Sto → List D → Option D) : Prop := Okc G X → CallR X f (rCall G g)
def dCallB (g : Sto → List D → Option D) (fs : FE (List D)) : FE D := fun ρ M => (fs ρ M).bind fun ds M1 => .ofO (g M1 ds) M1
theorem callB_rd {W : WX} {g : Sto → List D → Option D} {σ : L2.St} {H : Hp} {Q : VK} (h : rdE G W (dCallB g fs) σ H Q) : tCB (rCall G g) (rdA G W fs) σ H Q := by
  obtain ⟨ρ, θ, M, S, q⟩ := h
  refine rdA_seq (g := fun ds _ M1 => .ofO (g M1 ds) M1) S q fun ds vs H1 θ1 M1 S1 E1 r1 q1 => ?_
  cases e : g M1 ds with
  | none => rw [e] at q1; exact q1.elim
  | some d =>
    rw [e] at q1
    exact ⟨θ1, M1, ds, d, S1.2, r1, e, fun v H' E' S' r => q1 H' θ1 E' S' v r⟩
variable {x : Str} {p : Pos} {id T : String} {g : Sto → List D → Option D}
theorem de_callB (c : CallD G X (.builtin id) g) (hm : X.mg x = none) (ha : DA G X (e :: es) fs) (hg : Gl X x := by rfl) (hv : bootBuiltins x = some (.builtin id) := by decide +kernel) (hn : x ≠ "__name__" := by decide) (hdb : (x == ("__debug__" : Str)) = false := by decide)
    (he : starEach (e :: es) X.env = (false, eval e X.env) :: starEach es X.env := by rfl) (hpl : (backTo pos (starEach es X.env)).any (·.1) = false := by rfl) : DE G X (.Call (.Name x p) (e :: es) [] pos) (dCallB g fs) := fun ok W tk =>
  (pe_callB (c ok) hg hm hv (ha ok W tk) hn hdb he hpl).imp fun σ H Q h => callB_rd h
theorem de_callTy (c : CallD G X (.type T) g) (hm : X.mg x = none) (ha : DA G X (e :: es) fs) (hg : Gl X x := by rfl) (hv : bootBuiltins x = some (.type T) := by decide +kernel) (hn : x ≠ "__name__" := by decide) (hdb : (x == ("__debug__" : Str)) = false := by decide)
    (he : starEach (e :: es) X.env = (false, eval e X.env) :: starEach es X.env := by rfl) (hpl : (backTo pos (starEach es X.env)).any (·.1) = false := by rfl) : DE G X (.Call (.Name x p) (e :: es) [] pos) (dCallB g fs) := fun ok W tk =>
  (pe_callTy (c ok) hg hm hv (ha ok W tk) hn hdb he hpl).imp fun σ H Q h => callB_rd h
theorem de_callBf (c : CallD G X (.builtin id) g) (hm : X.mg x = some (.builtin id)) (ha : DA G X (e :: es) fs) (hg : Gl X x := by rfl) (hdb : (x == ("__debug__" : Str)) = false := by decide)
    (he : starEach (e :: es) X.env = (false, eval e X.env) :: starEach es X.env := by rfl) (hpl : (backTo pos (starEach es X.env)).any (·.1) = false := by rfl) : DE G X (.Call (.Name x p) (e :: es) [] pos) (dCallB g fs) := fun ok W tk =>
  (pe_callBfun (c ok) hg hm (ha ok W tk) hdb he hpl).imp fun σ H Q h => callB_rd h
/-! ### what some of them give -/
def gAbs (_ : Sto) : List D → Option D
  | [.int i] => some (.int (if i < 0 then -i else i))
  | _ => none
theorem cd_abs : CallD G X (.builtin "abs") gAbs := fun ok => by
  intro pins s σ H xs us Q I r h
  obtain ⟨θ, M, ds, d, S, rs, hg, q⟩ := h
  unfold gAbs at hg
  split at hg
  · cases hg
    cases rs with | cons r1 rs => cases rs; cases rep_int r1; exact call_abs pins s σ H _ us Q I r ⟨_, rfl, q _ H (Ext.refl _ _) S (.int _)⟩
  · cases hg
def gGcd (_ : Sto) : List D → Option D
  | [.int i, .int j] => some (.int ((Nat.gcd i.natAbs j.natAbs : Nat) : Int))
  | _ => none
theorem cd_gcd : CallD G X (.builtin "math.gcd") gGcd := fun ok => by
  intro pins s σ H xs us Q I r h
  obtain ⟨θ, M, ds, d, S, rs, hg, q⟩ := h
  unfold gGcd at hg
  split at hg
  · cases hg
    cases rs with | cons r1 rs => cases rs with | cons r2 rs => cases rs; cases rep_int r1; cases rep_int r2; exact cr_gcd pins s σ H _ us Q I r ⟨_, _, rfl, q _ H (Ext.refl _ _) S (.int _)⟩
  · cases hg
def gMin2 (_ : Sto) : List D → Option D
  | [.int i, .int j] => some (.int (if j < i then j else i))
  | _ => none
theorem cd_min2 : CallD G X (.builtin "min") gMin2 := fun ok => by
  intro pins s σ H xs us Q I r h
  obtain ⟨θ, M, ds, d, S, rs, hg, q⟩ := h
  unfold gMin2 at hg
  split at hg
  · cases hg
    cases rs with | cons r1 rs => cases rs with | cons r2 rs => cases rs; cases rep_int r1; cases rep_int r2; exact call_min2 ok.calm pins s σ H _ us Q I r ⟨_, _, rfl, q _ H (Ext.refl _ _) S (.int _)⟩
  · cases hg
def gInt1 (_ : Sto) : List D → Option D
  | [.int i] => some (.int i)
  | [.bl k] => some (.int (if k then 1 else 0))
  | _ => none
theorem cd_int : CallD G X (.type "int") gInt1 := fun ok => by
  intro pins s σ H xs us Q I r h
  obtain ⟨θ, M, ds, d, S, rs, hg, q⟩ := h
  unfold gInt1 at hg
  split at hg
  · cases hg
    cases rs with | cons r1 rs => cases rs; cases rep_int r1; exact call_int1 pins s σ H _ us Q I r (.inl ⟨_, rfl, q _ H (Ext.refl _ _) S (.int _)⟩)
  · cases hg
    cases rs with | cons r1 rs => cases rs; cases rep_bl r1; exact call_int1 pins s σ H _ us Q I r (.inr ⟨_, rfl, q _ H (Ext.refl _ _) S (.int _)⟩)
  · cases hg
def gLen (M : Sto) : List D → Option D
  | [.str z] => if z.length ≤ sizeLine then some (.int z.length) else none
  | [x] => (seqOf M x).map fun ds => .int ds.length
  | _ => none
theorem cd_len : CallD G X (.builtin "len") gLen := fun ok => by
  intro pins s σ H xs us Q I r h
  obtain ⟨θ, M, ds, d, S, rs, hg, q⟩ := h
  unfold gLen at hg
  split at hg
  · split at hg
    · rename_i hz
      cases hg
      cases rs with | cons r1 rs => cases rs; cases rep_str r1; exact call_len_str pins s σ H _ us Q I r ⟨_, rfl, hz, q _ H (Ext.refl _ _) S (.int _)⟩
    · cases hg
  · obtain ⟨es, h1, h2⟩ := Option.map_eq_some_iff.mp hg
    subst h2
    cases rs with | cons r1 rs =>
      cases rs
      obtain ⟨p, ys, rfl, hp, r2⟩ := rep_seq S r1 h1
      rw [ok.hk] at hp
      rw [← r2.length] at q
      exact call_len_seq pins s σ H _ us Q I r ⟨p, ys, rfl, hp, q _ H (Ext.refl _ _) S (.int _)⟩
  · cases hg
def gTuple (M : Sto) : List D → Option D
  | [.tup ds] => some (.tup ds)
  | [x] => (lstOf M x).map .tup
  | _ => none
theorem cd_tuple : CallD G X (.type "tuple") gTuple := fun ok => by
  intro pins s σ H xs us Q I r h
  obtain ⟨θ, M, ds, d, S, rs, hg, q⟩ := h
  unfold gTuple at hg
  split at hg
  · cases hg
    cases rs with | cons r1 rs =>
      cases rs
      obtain ⟨p, ys, rfl, hp, r2⟩ := rep_tup r1
      rw [ok.hk] at hp
      exact call_tuple_of pins s σ H _ us Q I r ⟨p, ys, rfl, .inr ⟨hp, q _ H (Ext.refl _ _) S r1⟩⟩
  · obtain ⟨es, h1, h2⟩ := Option.map_eq_some_iff.mp hg
    subst h2
    cases rs with | cons r1 rs =>
      cases rs
      obtain ⟨p, ys, rfl, hp, r2⟩ := rep_lst S r1 h1
      rw [ok.hk] at hp
      exact call_tuple_of pins s σ H _ us Q I r ⟨p, ys, rfl, .inl ⟨hp, fun l hl => q _ _ (Ext.alloc hl _) (S.alloc hl _) (new_tup S hl r2)⟩⟩
  · cases hg
def gList (M : Sto) : List D → Option D
  | [x] => (seqOf M x).map .lst
  | _ => none
theorem cd_list : CallD G X (.type "list") gList := fun ok => by
  intro pins s σ H xs us Q I r h
  obtain ⟨θ, M, ds, d, S, rs, hg, q⟩ := h
  unfold gList at hg
  split at hg
  · obtain ⟨es, h1, h2⟩ := Option.map_eq_some_iff.mp hg
    subst h2
    cases rs with | cons r1 rs =>
      cases rs
      obtain ⟨p, ys, rfl, hp, r2⟩ := rep_seq S r1 h1
      rw [ok.hk] at hp
      exact call_list_of pins s σ H _ us Q I r ⟨p, ys, rfl, hp, fun l hl => q _ _ (Ext.alloc hl _) (S.alloc hl _) (new_lst S hl r2)⟩
  · cases hg
def bls : List D → Option (List Bool)
  | [] => some []
  | .bl b :: r => (bls r).map (b :: ·)
  | _ => none
theorem reps_bls {H : Hp} {θ : Th} : ∀ {ds : List D} {vs : List V} {bs : List Bool}, Reps G H θ vs ds → bls ds = some bs → vs = bs.map V.bl
  | [], _, _, r, h => by cases h; cases r; rfl
  | .bl b :: r, _, _, rs, h => by
    obtain ⟨bs, h1, h2⟩ := Option.map_eq_some_iff.mp h
    subst h2
    cases rs with
    | cons r1 rs => rw [rep_bl r1, reps_bls rs h1]; rfl
  | .non :: _, _, _, _, h => by cases h
  | .int _ :: _, _, _, _, h => by cases h
  | .str _ :: _, _, _, _, h => by cases h
  | .tup _ :: _, _, _, _, h => by cases h
  | .lst _ :: _, _, _, _, h => by cases h
  | .flst _ :: _, _, _, _, h => by cases h
  | .dic _ _ :: _, _, _, _, h => by cases h
  | .obj _ _ _ :: _, _, _, _, h => by cases h
  | .exc _ _ _ :: _, _, _, _, h => by cases h
  | .own _ :: _, _, _, _, h => by cases h
def gAll (M : Sto) : List D → Option D
  | [x] => (lstOf M x).bind fun ds => (bls ds).map fun bs => .bl (bs.all _root_.id)
  | _ => none
theorem cd_all : CallD G X (.builtin "all") gAll := fun ok => by
  intro pins s σ H xs us Q I r h
  obtain ⟨θ, M, ds, d, S, rs, hg, q⟩ := h
  unfold gAll at hg
  split at hg
  · obtain ⟨es, h1, h3⟩ := Option.bind_eq_some_iff.mp hg
    obtain ⟨bs, h4, h2⟩ := Option.map_eq_some_iff.mp h3
    subst h2
    cases rs with | cons r1 rs =>
      cases rs
      obtain ⟨p, ys, rfl, hp, r2⟩ := rep_lst S r1 h1
      rw [ok.hk] at hp
      have e := reps_bls r2 h4
      subst e
      exact cr_all ok.calm pins s σ H _ us Q I r ⟨p, bs, rfl, hp, q _ H (Ext.refl _ _) S (.bl _)⟩
  · cases hg
end
end DL
set_option maxHeartbeats 4000000
namespace DL
open PySem PySem.Spec PyProof.Rows L2
/-! ### what is stored to -/
abbrev FG := D → Env → Sto → Option (Env × Sto)
abbrev FGs := List D → Env → Sto → Option (Env × Sto)
def rdG (G : Cfg) (g : FG) : TG := fun v σ H Q => ∃ ρ θ M d ρ' M', StR G σ H ρ θ M ∧ Rep G H θ v d ∧ g d ρ M = some (ρ', M') ∧ ∀ σ' H' θ', Ext H θ H' θ' → StR G σ' H' ρ' θ' M' → Q σ' H'
def rdGs (G : Cfg) (g : FGs) : TGs := fun vs σ H Q => ∃ ρ θ M ds ρ' M', StR G σ H ρ θ M ∧ Reps G H θ vs ds ∧ g ds ρ M = some (ρ', M') ∧ ∀ σ' H' θ', Ext H θ H' θ' → StR G σ' H' ρ' θ' M' → Q σ' H'
def DG (G : Cfg) (X : Cx) (tg : Expr) (g : FG) : Prop := Okc G X → PG X tg (rdG G g)
def DGs (G : Cfg) (X : Cx) (tg : List Expr) (g : FGs) : Prop := Okc G X → PGs X tg (rdGs G g)
end DL
namespace L2
open PySem PySem.Spec PyProof.Rows
section
variable {X : Cx}
theorem PG.imp {e : Expr} {t t' : TG} (h : PG X e t) (k : ∀ v σ H Q, t' v σ H Q → t v σ H Q) : PG X e t' := ⟨fun pins s σ H v u Q I r q => h.run pins s σ H v u Q I r (k v σ H Q q)⟩
theorem PGs.imp {e : List Expr} {t t' : TGs} (h : PGs X e t) (k : ∀ v σ H Q, t' v σ H Q → t v σ H Q) : PGs X e t' := ⟨fun pins s σ H v u Q I r q => h.run pins s σ H v u Q I r (k v σ H Q q)⟩
end
end L2
namespace DL
open PySem PySem.Spec PyProof.Rows L2
section
variable {G : Cfg} {X : Cx} {a b c e : Expr} {es : List Expr} {fa fb fc f : FE D} {fs : FE (List D)} {ft : FE Bool} {pos : Pos} {st : Stmt} {sts : List Stmt} {s1 s2 : FS} {g : FG} {gs : FGs}
def gNm (i : Nat) : FG := fun d ρ M => some (ρ.set i (some d), M)
theorem dg_name (i : Nat) {x : Str} (hN : X.N.Nodup) (hi : X.N[i]? = some x := by rfl) (hx : Loc X.env.scope x := by first | exact Or.inl rfl | exact Or.inr rfl) (hf : X.fn x = true ∨ X.env.scope.names.lookup x = some .local := by first | exact .inl rfl | exact .inr rfl) : DG G X (.Name x pos) (gNm i) := fun ok => by
  refine (pg_name hN hi hx hf).imp fun v σ H Q h => ?_
  obtain ⟨ρ, θ, M, d, ρ', M', S, r, e, q⟩ := h
  cases e
  exact q _ _ θ (Ext.refl _ _) ⟨S.1.set i r, S.2⟩
def gsNil : FGs := fun ds ρ M => match ds with
  | [] => some (ρ, M)
  | _ => none
def gsCons (g : FG) (gs : FGs) : FGs := fun ds ρ M => match ds with
  | d :: ds => match g d ρ M with
    | some (ρ1, M1) => gs ds ρ1 M1
    | none => none
  | [] => none
theorem dgs_nil : DGs G X [] gsNil := fun ok => pgs_nil.imp fun vs σ H Q h => by
  obtain ⟨ρ, θ, M, ds, ρ', M', S, r, e, q⟩ := h
  cases r with
  | nil => cases e; exact ⟨rfl, q _ _ θ (Ext.refl _ _) S⟩
  | cons r rs => cases e
theorem dgs_cons (h1 : DG G X e g) (h2 : DGs G X es gs) (hs : (assignEach (e :: es) X.env).map (·.2) = assign e X.env :: (assignEach es X.env).map (·.2) := by rfl) : DGs G X (e :: es) (gsCons g gs) := fun ok => (pgs_cons (h1 ok) (h2 ok) hs).imp fun vs σ H Q h => by
  obtain ⟨ρ, θ, M, ds, ρ', M', S, r, e, q⟩ := h
  cases r with
  | nil => cases e
  | cons r rs =>
    rename_i v vs d ds
    have e' : (match g d ρ M with | some (ρ1, M1) => gs ds ρ1 M1 | none => none) = some (ρ', M') := e
    split at e'
    · rename_i ρ1 M1 e1
      exact ⟨_, _, rfl, ρ, θ, M, d, ρ1, M1, S, r, e1, fun σ1 H1 θ1 E1 S1 => ⟨ρ1, θ1, M1, ds, ρ', M', S1, rs.ext E1, e', fun σ2 H2 θ2 E2 S2 => q σ2 H2 θ2 (E1.trans E2) S2⟩⟩
    · cases e'
def gTp (n : Nat) (gs : FGs) : FG := fun d ρ M => match d with
  | .tup ds => if ds.length = n then gs ds ρ M else none
  | _ => none
theorem dg_tup {k n : Nat} (h : DGs G X es gs) (hn : (assignEach es X.env).length = n := by rfl) (hst : (assignEach es X.env).findIdx? (·.1) = none := by rfl) : DG G X (.Tuple es k pos) (gTp n gs) := fun ok => (pg_tup ok.calm (h ok) hn hst).imp fun v σ H Q h => by
  obtain ⟨ρ, θ, M, d, ρ', M', S, r, e, q⟩ := h
  unfold gTp at e
  split at e
  · rename_i ds
    split at e
    · rename_i hl
      obtain ⟨p, xs, rfl, hp, rs⟩ := rep_tup r
      rw [ok.hk] at hp
      exact ⟨p, xs, rfl, hp, by rw [rs.length]; exact hl, ρ, θ, M, ds, ρ', M', S, rs, e, q⟩
    · cases e
  · cases e
/-! ### blocks -/
def sNx : FS := fun ρ M => .nx ρ M
def Out.seq (o : Out) (k : Env → Sto → Out) : Out := match o with
  | .nx ρ M => k ρ M
  | .rt d M => .rt d M
  | .bk ρ M => .bk ρ M
  | .ct ρ M => .ct ρ M
  | .exc c fs vs ρ M => .exc c fs vs ρ M
  | .bad => .bad
def sSq (s1 s2 : FS) : FS := fun ρ M => (s1 ρ M).seq s2
theorem dss_nil : DSs G X [] sNx := fun ok po W tk => pss_nil.imp fun D σ H h => by
  obtain ⟨ρ, θ, M, S, q⟩ := h
  exact q σ H θ (Ext.refl _ _) S
theorem dss_cons (h1 : DS G X st s1) (h2 : DSs G X sts s2) : DSs G X (st :: sts) (sSq s1 s2) := fun ok po W tk => (pss_cons (h1 ok po W tk) (h2 ok po W tk)).imp fun D σ H h => by
  obtain ⟨ρ, θ, M, S, q⟩ := h
  refine ⟨ρ, θ, M, S, ?_⟩
  have q : postS G W D H θ ((s1 ρ M).seq s2) := q
  cases e : s1 ρ M with
  | nx ρ1 M1 => rw [e] at q; exact fun σ1 H1 θ1 E1 S1 => ⟨ρ1, θ1, M1, S1, postS.base q E1⟩
  | rt d M1 => rw [e] at q; exact q
  | bk ρ1 M1 => rw [e] at q; exact q
  | ct ρ1 M1 => rw [e] at q; exact q
  | exc c fs vs ρ1 M1 => rw [e] at q; exact q
  | bad => rw [e] at q; exact q
theorem dss_one (h1 : DS G X st s1) : DSs G X [st] s1 := fun ok po W tk => pss_one (h1 ok po W tk)
theorem ds_pass : DS G X (.Pass pos) sNx := fun ok po W tk => ps_pass.imp fun D σ H h => by
  obtain ⟨ρ, θ, M, S, q⟩ := h
  exact q σ H θ (Ext.refl _ _) S
theorem ds_doc {x j pos'} : DS G X (.Expr (.Constant (.str x) j pos) pos') sNx := fun ok po W tk => ps_doc.imp fun D σ H h => by
  obtain ⟨ρ, θ, M, S, q⟩ := h
  exact q σ H θ (Ext.refl _ _) S
def sBk : FS := fun ρ M => .bk ρ M
def sCt : FS := fun ρ M => .ct ρ M
theorem ds_break : DS G X (.Break pos) sBk := fun ok po W tk => ps_break.imp fun D σ H h => by
  obtain ⟨ρ, θ, M, S, q⟩ := h
  exact q σ H θ (Ext.refl _ _) S
theorem ds_continue : DS G X (.Continue pos) sCt := fun ok po W tk => ps_continue.imp fun D σ H h => by
  obtain ⟨ρ, θ, M, S, q⟩ := h
  exact q σ H θ (Ext.refl _ _) S
def sEx (f : FE D) : FS := fun ρ M => (f ρ M).thn ρ fun _ M1 => .nx ρ M1
theorem ds_expr (h : DE G X e f) (hs : swapsWith e none pos.line X.env = pure false := by rfl) : DS G X (.Expr e pos) (sEx f) := fun ok po W tk => (ps_expr (h ok W tk) hs).imp fun D σ H h => by
  obtain ⟨ρ, θ, M, S, q⟩ := h
  exact ⟨ρ, θ, M, S, postS.seq (g := fun _ M1 => .nx ρ M1) S.1 q fun x M1 H1 θ1 E S1 q1 v r => q1 σ H1 θ1 (Ext.refl _ _) ⟨S.1.ext E, S1⟩⟩
def sRt (f : FE D) : FS := fun ρ M => (f ρ M).thn ρ fun d M1 => .rt d M1
theorem ds_ret (h : DE G X e f) : DS G X (.Return (some e) pos) (sRt f) := fun ok po W tk => (ps_ret (h ok W tk)).imp fun D σ H h => by
  obtain ⟨ρ, θ, M, S, q⟩ := h
  exact ⟨ρ, θ, M, S, postS.seq (g := fun d M1 => .rt d M1) S.1 q fun x M1 H1 θ1 E S1 q1 v r => q1 v H1 θ1 (Ext.refl _ _) S1 r⟩
def sRtN : FS := fun _ M => .rt .non M
theorem ds_retN : DS G X (.Return none pos) sRtN := fun ok po W tk => ps_retN.imp fun D σ H h => by
  obtain ⟨ρ, θ, M, S, q⟩ := h
  exact q .non H θ (Ext.refl _ _) S.2 .non
def sIf (t : FE Bool) (s1 s2 : FS) : FS := fun ρ M => (t ρ M).thn ρ fun c M1 => if c = true then s1 ρ M1 else s2 ρ M1
theorem ds_if {sts2 : List Stmt} (hc : DT G X c ft) (h1 : DSs G X sts s1) (h2 : DSs G X sts2 s2) : DS G X (.If c sts sts2 pos) (sIf ft s1 s2) := fun ok po W tk => (ps_if (hc ok W tk) (h1 ok po W tk) (h2 ok po W tk)).imp fun D σ H h => by
  obtain ⟨ρ, θ, M, S, q⟩ := h
  refine ⟨ρ, θ, M, S, postS.seq (g := fun c M1 => if c = true then s1 ρ M1 else s2 ρ M1) S.1 q fun c M1 H1 θ1 E S1 q1 => ?_⟩
  cases c with
  | true => exact iteT ⟨ρ, θ1, M1, ⟨S.1.ext E, S1⟩, q1⟩
  | false => exact iteF ⟨ρ, θ1, M1, ⟨S.1.ext E, S1⟩, q1⟩
/-! ### target = value -/
def Out.ofO : Option (Env × Sto) → Out
  | some (ρ, M) => .nx ρ M
  | none => .bad
def sAs (f : FE D) (g : FG) : FS := fun ρ M => (f ρ M).thn ρ fun d M1 => Out.ofO (g d ρ M1)
theorem as_rd {W : WX} {D : Ends} {σ : L2.St} {H : Hp} (h : rdS G W (sAs f g) D σ H) : tAsg (rdE G W f) (rdG G g) D σ H := by
  obtain ⟨ρ, θ, M, S, q⟩ := h
  refine ⟨ρ, θ, M, S, postS.seq (g := fun d M1 => Out.ofO (g d ρ M1)) S.1 q fun d M1 H1 θ1 E S1 q1 v r => ?_⟩
  cases e : g d ρ M1 with
  | none => rw [e] at q1; exact q1.elim
  | some p =>
    obtain ⟨ρ', M'⟩ := p
    rw [e] at q1
    exact ⟨ρ, θ1, M1, d, ρ', M', ⟨S.1.ext E, S1⟩, r, e, q1⟩
theorem ds_asg {tg : Expr} (he : DE G X e f) (hg : DG G X tg g) (hs : swapsWithSole [tg] e pos.line X.env = pure false := by rfl) (hw : swappedStores [tg] e X.env = pure none := by rfl)
    (h1 : (assignEach [tg] X.env).map (·.2) = [assign tg X.env] := by rfl) : DS G X (.Assign [tg] e pos) (sAs f g) := fun ok po W tk => (ps_asg (he ok W tk) (hg ok) hs hw h1).imp fun D σ H h => as_rd h
def sSet (i : Nat) (f : FE D) : FS := fun ρ M => (f ρ M).thn ρ fun d M1 => .nx (ρ.set i (some d)) M1
theorem ds_set (i : Nat) {x : Str} {pos' : Pos} (hN : X.N.Nodup) (he : DE G X e f) (hi : X.N[i]? = some x := by rfl) (hx : Loc X.env.scope x := by first | exact Or.inl rfl | exact Or.inr rfl) (hs : swapsWith e (some (.Name x pos')) pos.line X.env = pure false := by rfl)
    (hf : X.fn x = true ∨ X.env.scope.names.lookup x = some .local := by first | exact .inl rfl | exact .inr rfl) : DS G X (.Assign [.Name x pos'] e pos) (sSet i f) := fun ok po W tk => (ps_set hN hi hx (he ok W tk) hs hf).imp fun D σ H h => by
  obtain ⟨ρ, θ, M, S, q⟩ := h
  exact ⟨ρ, θ, M, S, postS.seq (g := fun d M1 => .nx (ρ.set i (some d)) M1) S.1 q fun d M1 H1 θ1 E S1 q1 v r => q1 _ H1 θ1 (Ext.refl _ _) ⟨(S.1.ext E).set i r, S1⟩⟩
def sPar (i j : Nat) (fa fb : FE D) : FS := fun ρ M => (fa ρ M).thn ρ fun x M1 => (fb ρ M1).thn ρ fun y M2 => .nx ((ρ.set i (some x)).set j (some y)) M2
theorem ds_par (i j : Nat) {x y : Str} {px py pt : Pos} {kt k2 pt2} (hN : X.N.Nodup) (ha : DE G X a fa) (hb : DE G X b fb) (hi : X.N[i]? = some x := by rfl) (hj : X.N[j]? = some y := by rfl) (hij : i ≠ j := by decide)
    (hx : X.env.scope.names.lookup x = some .local := by rfl) (hy : X.env.scope.names.lookup y = some .local := by rfl)
    (hst : starEach [a, b] X.env = (false, eval a X.env) :: starEach [b] X.env := by rfl) (hst2 : starEach [b] X.env = (false, eval b X.env) :: starEach [] X.env := by rfl)
    (hw : swappedStores [.Tuple [.Name x px, .Name y py] kt pt] (.Tuple [a, b] k2 pt2) X.env = pure (some [x, y]) := by rfl)
    (hs : swapsWithSole [.Tuple [.Name x px, .Name y py] kt pt] (.Tuple [a, b] k2 pt2) pos.line X.env = pure false := by rfl) :
    DS G X (.Assign [.Tuple [.Name x px, .Name y py] kt pt] (.Tuple [a, b] k2 pt2) pos) (sPar i j fa fb) := fun ok po W tk => by
  refine (ps_par ok.calm hN hi hj hij hx hy (pa_cons (ha ok W tk) (pa_cons (hb ok W tk) pa_nil hst2) hst) hw hs).imp fun D σ H h => ?_
  obtain ⟨ρ, θ, M, S, q⟩ := h
  refine ⟨ρ, θ, M, S, postS.seq (g := fun x M1 => (fb ρ M1).thn ρ fun y M2 => .nx ((ρ.set i (some x)).set j (some y)) M2) S.1 q fun d M1 H1 θ1 E S1 q1 v r => ?_⟩
  refine ⟨ρ, θ1, M1, ⟨S.1.ext E, S1⟩, postS.seq (g := fun y M2 => .nx ((ρ.set i (some d)).set j (some y)) M2) (S.1.ext E) q1 fun d2 M2 H2 θ2 E2 S2 q2 u r2 => ?_⟩
  exact ⟨v, u, rfl, q2 _ H2 θ2 (Ext.refl _ _) ⟨((((S.1.ext E).ext E2).set i (r.ext E2)).set j r2), S2⟩⟩
def sPar3 (i j l : Nat) (fa fb fc : FE D) : FS := fun ρ M => (fa ρ M).thn ρ fun x M1 => (fb ρ M1).thn ρ fun y M2 => (fc ρ M2).thn ρ fun z M3 => .nx (((ρ.set i (some x)).set j (some y)).set l (some z)) M3
theorem ds_par3 (i j l : Nat) {x y z : Str} {px py pz pt : Pos} {kt k2 pt2} (hN : X.N.Nodup) (ha : DE G X a fa) (hb : DE G X b fb) (hc : DE G X c fc) (hi : X.N[i]? = some x := by rfl) (hj : X.N[j]? = some y := by rfl) (hl : X.N[l]? = some z := by rfl) (hij : i ≠ j := by decide) (hil : i ≠ l := by decide) (hjl : j ≠ l := by decide)
    (hx : X.env.scope.names.lookup x = some .local := by rfl) (hy : X.env.scope.names.lookup y = some .local := by rfl) (hz : X.env.scope.names.lookup z = some .local := by rfl)
    (hst : starEach [a, b, c] X.env = (false, eval a X.env) :: starEach [b, c] X.env := by rfl) (hst2 : starEach [b, c] X.env = (false, eval b X.env) :: starEach [c] X.env := by rfl) (hst3 : starEach [c] X.env = (false, eval c X.env) :: starEach [] X.env := by rfl)
    (hw : swappedStores [.Tuple [.Name x px, .Name y py, .Name z pz] kt pt] (.Tuple [a, b, c] k2 pt2) X.env = pure (some [x, y, z]) := by rfl)
    (hs : swapsWithSole [.Tuple [.Name x px, .Name y py, .Name z pz] kt pt] (.Tuple [a, b, c] k2 pt2) pos.line X.env = pure false := by rfl) :
    DS G X (.Assign [.Tuple [.Name x px, .Name y py, .Name z pz] kt pt] (.Tuple [a, b, c] k2 pt2) pos) (sPar3 i j l fa fb fc) := fun ok po W tk => by
  refine (ps_par3 ok.calm hN hi hj hl hij hil hjl hx hy hz (pa_cons (ha ok W tk) (pa_cons (hb ok W tk) (pa_cons (hc ok W tk) pa_nil hst3) hst2) hst) hw hs).imp fun D σ H h => ?_
  obtain ⟨ρ, θ, M, S, q⟩ := h
  refine ⟨ρ, θ, M, S, postS.seq (g := fun x M1 => (fb ρ M1).thn ρ fun y M2 => (fc ρ M2).thn ρ fun z M3 => .nx (((ρ.set i (some x)).set j (some y)).set l (some z)) M3) S.1 q fun d M1 H1 θ1 E S1 q1 v r => ?_⟩
  refine ⟨ρ, θ1, M1, ⟨S.1.ext E, S1⟩, postS.seq (g := fun y M2 => (fc ρ M2).thn ρ fun z M3 => .nx (((ρ.set i (some d)).set j (some y)).set l (some z)) M3) (S.1.ext E) q1 fun d2 M2 H2 θ2 E2 S2 q2 u r2 => ?_⟩
  refine ⟨ρ, θ2, M2, ⟨(S.1.ext E).ext E2, S2⟩, postS.seq (g := fun z M3 => .nx (((ρ.set i (some d)).set j (some d2)).set l (some z)) M3) ((S.1.ext E).ext E2) q2 fun d3 M3 H3 θ3 E3 S3 q3 w r3 => ?_⟩
  exact ⟨v, u, w, rfl, q3 _ H3 θ3 (Ext.refl _ _) ⟨((((((S.1.ext E).ext E2).ext E3).set i ((r.ext E2).ext E3)).set j (r2.ext E3)).set l r3), S3⟩⟩
/-! ### name op= e -/
def sAug (i : Nat) (g : Sto → D → D → Option D) (f : FE D) : FS := fun ρ M => match ρ[i]? with
  | some (some x) => (f ρ M).thn ρ fun y M1 => match g M1 x y with
    | some z => .nx (ρ.set i (some z)) M1
    | none => .bad
  | _ => .bad
theorem ds_aug (i : Nat) {x : Str} {op : Operator} {g : Sto → D → D → Option D} {pos' : Pos} (o : OpD G X (inplaceOp op) g) (hN : X.N.Nodup) (he : DE G X e f) (hi : X.N[i]? = some x := by rfl) (hx : Loc X.env.scope x := by first | exact Or.inl rfl | exact Or.inr rfl)
    (hf : X.fn x = true ∨ X.env.scope.names.lookup x = some .local := by first | exact .inl rfl | exact .inr rfl) : DS G X (.AugAssign (.Name x pos') op e pos) (sAug i g f) := fun ok po W tk => by
  refine (ps_aug (ti := rOp G g) hN hi hx (he ok W tk) (o ok) hf).imp fun D σ H h => ?_
  obtain ⟨ρ, θ, M, S, q⟩ := h
  unfold sAug at q
  split at q
  · rename_i x e
    obtain ⟨v, h1, h2⟩ := S.1.2 i x e
    refine ⟨v, h1, ρ, θ, M, S, postS.seq (g := fun y M1 => match g M1 x y with | some z => .nx (ρ.set i (some z)) M1 | none => .bad) S.1 q fun d M1 H1 θ1 E S1 q1 u r => ?_⟩
    cases eg : g M1 x d with
    | none => rw [eg] at q1; exact q1.elim
    | some z =>
      rw [eg] at q1
      exact ⟨θ1, M1, x, d, z, S1, h2.ext E, r, eg, fun w H2 E2 S2 r2 => q1 _ H2 θ1 E2 ⟨((S.1.ext E).ext E2).set i r2, S2⟩⟩
  · exact q.elim
end
end DL
set_option maxHeartbeats 4000000
namespace DL
open PySem PySem.Spec PyProof.Rows L2
/-! ### what is walked -/
/-- J yields the items that at_ tells of the store -/
structure ItD (G : Cfg) (H : Hp) (θ : Th) (at_ : Sto → Option (List D)) (J : It) : Prop where
  go : ∀ (H1 : Hp) (θ1 : Th) (M1 : Sto) (ds : List D) (i : Nat) (d : D), Ext H θ H1 θ1 → StoR G H1 θ1 M1 → at_ M1 = some ds → ds[i]? = some d → J.go i H1 ∧ ∀ x H2, J.yld i H1 x H2 → ∃ θ2, Ext H1 θ1 H2 θ2 ∧ StoR G H2 θ2 M1 ∧ Rep G H2 θ2 x d
  stop : ∀ (H1 : Hp) (θ1 : Th) (M1 : Sto) (ds : List D) (i : Nat), Ext H θ H1 θ1 → StoR G H1 θ1 M1 → at_ M1 = some ds → ds.length ≤ i → J.stop i H1
/-- fixed items, or those of the changing list n -/
inductive IT where
  | fix (ds : List D)
  | own (n : Nat)
def IT.at_ : IT → Sto → Option (List D)
  | .fix ds, _ => some ds
  | .own n, M => lstOf M (.own n)
def DI (G : Cfg) (X : Cx) (tg iter : Expr) (fi : FE IT) : Prop := Okc G X → ∀ W, Takes X W → PI X tg iter fun σ H R => ∃ ρ θ M, StR G σ H ρ θ M ∧ postR G W σ H θ (fun H' θ' _ p => ∀ J, ItD G H' θ' p.at_ J → R J H') (fi ρ M)
end DL
namespace L2
open PySem PySem.Spec PyProof.Rows
theorem PI.imp {X : Cx} {tg e : Expr} {t t' : TI} (h : PI X tg e t) (k : ∀ σ H R, t' σ H R → t σ H R) : PI X tg e t' := ⟨fun pins s σ H R I q => h.run pins s σ H R I (k σ H R q)⟩
end L2
namespace DL
open PySem PySem.Spec PyProof.Rows L2
/-- what an item-yielding value is: its kind -/
def itOf : D → Option IT
  | .tup ds => some (.fix ds)
  | .lst ds => some (.fix ds)
  | .flst ds => some (.fix ds)
  | .own n => some (.own n)
  | _ => none
section
variable {G : Cfg} {X : Cx} {tg a b c e : Expr} {es : List Expr} {fa fb fc f : FE D} {fs : FE (List D)} {ft : FE Bool} {pos : Pos}
theorem itl_of {H : Hp} {θ : Th} {v : V} {d : D} {p : IT} (ok : Okc G X) (r : Rep G H θ v d) (h : itOf d = some p) (ht : ∀ ds, d ≠ .tup ds) : ∃ a, v = .ref a ∧ ItD G H θ p.at_ (Itl X.K a) ∧ ∀ ds M, StoR G H θ M → p.at_ M = some ds → ∃ xs, SqL X.K H a xs := by
  have key : ∃ a, v = .ref a ∧ ∀ (H1 : Hp) (θ1 : Th) (M1 : Sto) (ds : List D), Ext H θ H1 θ1 → StoR G H1 θ1 M1 → p.at_ M1 = some ds → ∃ xs, SqL X.K H1 a xs ∧ (∀ ys, SqL X.K H1 a ys → ∃ zs, SqL X.K H1 a zs ∧ True) ∧ Reps G H1 θ1 xs ds := by
    obtain ⟨a, e⟩ : ∃ a, v = .ref a := by
      cases r <;> first | exact ⟨_, rfl⟩ | cases h
    subst e
    refine ⟨a, rfl, fun H1 θ1 M1 ds E S1 hat => ?_⟩
    have r1 := r.ext E
    have hl : lstOf M1 d = some ds := by
      cases d with
      | tup es => exact absurd rfl (ht es)
      | lst es => cases h; exact hat
      | flst es => cases h; exact hat
      | own n => cases h; exact hat
      | _ => cases h
    obtain ⟨a', xs, ea, hq, rs⟩ := rep_lst S1 r1 hl
    cases ea
    rw [ok.hk] at hq
    exact ⟨xs, hq, fun ys hy => ⟨ys, hy, trivial⟩, rs⟩
  obtain ⟨a, ea, k⟩ := key
  refine ⟨a, ea, ⟨fun H1 θ1 M1 ds i d' E S1 hat hi => ?_, fun H1 θ1 M1 ds i E S1 hat hi => ?_⟩, fun ds M S hat => ?_⟩
  · obtain ⟨xs, hq, _, rs⟩ := k H1 θ1 M1 ds E S1 hat
    obtain ⟨x, h1, h2⟩ := rs.get hi
    refine ⟨⟨xs, x, hq, h1⟩, fun y H2 hy => ?_⟩
    obtain ⟨e2, hy⟩ := hy
    subst e2
    have z := hy xs hq
    rw [h1] at z
    cases z
    exact ⟨θ1, Ext.refl _ _, S1, h2⟩
  · obtain ⟨xs, hq, _, rs⟩ := k H1 θ1 M1 ds E S1 hat
    exact ⟨xs, hq, by rw [rs.length]; exact hi⟩
  · obtain ⟨xs, hq, _⟩ := k H θ M ds (Ext.refl _ _) S hat
    exact ⟨xs, hq⟩
theorem itt_of {H : Hp} {θ : Th} {v : V} {ds : List D} (ok : Okc G X) (r : Rep G H θ v (.tup ds)) : ∃ a, v = .ref a ∧ ItD G H θ (IT.fix ds).at_ (Itt X.K a) ∧ ∃ xs, SqT X.K H a xs := by
  have key : ∃ a, v = .ref a ∧ ∀ (H1 : Hp) (θ1 : Th), Ext H θ H1 θ1 → ∃ xs, SqT X.K H1 a xs ∧ Reps G H1 θ1 xs ds := by
    obtain ⟨a, xs, ea, hq, rs⟩ := rep_tup r
    subst ea
    refine ⟨a, rfl, fun H1 θ1 E => ?_⟩
    obtain ⟨a', xs', ea, hq', rs'⟩ := rep_tup (r.ext E)
    cases ea
    rw [ok.hk] at hq'
    exact ⟨xs', hq', rs'⟩
  obtain ⟨a, ea, k⟩ := key
  refine ⟨a, ea, ⟨fun H1 θ1 M1 ds' i d' E S1 hat hi => ?_, fun H1 θ1 M1 ds' i E S1 hat hi => ?_⟩, ?_⟩
  · cases hat
    obtain ⟨xs, hq, rs⟩ := k H1 θ1 E
    obtain ⟨x, h1, h2⟩ := rs.get hi
    refine ⟨⟨xs, x, hq, h1⟩, fun y H2 hy => ?_⟩
    obtain ⟨e2, hy⟩ := hy
    subst e2
    have z := hy xs hq
    rw [h1] at z
    cases z
    exact ⟨θ1, Ext.refl _ _, S1, h2⟩
  · cases hat
    obtain ⟨xs, hq, rs⟩ := k H1 θ1 E
    exact ⟨xs, hq, by rw [rs.length]; exact hi⟩
  · obtain ⟨xs, hq, rs⟩ := k H θ (Ext.refl _ _)
    exact ⟨xs, hq⟩
/-- a list: of any kind -/
def isTp : D → Bool
  | .tup _ => true
  | _ => false
def kLst (d : D) (M : Sto) : Res IT := if isTp d = true then .bad else match itOf d with
  | none => .bad
  | some p => match p.at_ M with
    | some _ => .ok p M
    | none => .bad
def iLst (f : FE D) : FE IT := fun ρ M => (f ρ M).bind kLst
theorem di_list (h : DE G X e f) : DI G X tg e (iLst f) := fun ok W tk => (pi_list (h ok W tk)).imp fun σ H R q => by
  obtain ⟨ρ, θ, M, S, q⟩ := q
  refine rdE_seq (g := fun d _ M1 => kLst d M1) S q fun d v H1 θ1 M1 S1 E1 r1 q1 => ?_
  unfold kLst at q1
  split at q1
  · exact q1.elim
  · rename_i hd
    cases hp : itOf d with
    | none => rw [hp] at q1; exact q1.elim
    | some p =>
      simp only [hp] at q1
      cases hat : p.at_ M1 with
      | none => rw [hat] at q1; exact q1.elim
      | some ds =>
        rw [hat] at q1
        obtain ⟨a, ea, J, k⟩ := itl_of ok r1 hp (fun ds z => hd (by rw [z]; rfl))
        exact ⟨a, ea, k ds M1 S1.2 hat, q1 H1 θ1 (Ext.refl _ _) S1.2 _ J⟩
def kTpl (d : D) (M : Sto) : Res IT := match d with
  | .tup ds => .ok (IT.fix ds) M
  | _ => .bad
def iTpl (f : FE D) : FE IT := fun ρ M => (f ρ M).bind kTpl
theorem di_tup (h : DE G X e f) : DI G X tg e (iTpl f) := fun ok W tk => (pi_tup (h ok W tk)).imp fun σ H R q => by
  obtain ⟨ρ, θ, M, S, q⟩ := q
  refine rdE_seq (g := fun d _ M1 => kTpl d M1) S q fun d v H1 θ1 M1 S1 E1 r1 q1 => ?_
  cases d with
  | tup ds =>
    obtain ⟨a, ea, J, k⟩ := itt_of ok r1
    exact ⟨a, ea, k, q1 H1 θ1 (Ext.refl _ _) S1.2 _ J⟩
  | _ => exact q1.elim
/-- lo, lo + 1, .. -/
def intUp (lo : Int) : Nat → List D
  | 0 => []
  | n + 1 => .int lo :: intUp (lo + 1) n
theorem intUp_len : ∀ (n : Nat) (lo : Int), (intUp lo n).length = n
  | 0, _ => rfl
  | n + 1, lo => by rw [intUp, List.length_cons, intUp_len n]
theorem intUp_at : ∀ (n : Nat) (lo : Int) (i : Nat) (d : D), (intUp lo n)[i]? = some d → i < n ∧ d = .int (lo + i)
  | 0, _, _, _, h => by simp [intUp] at h
  | n + 1, lo, 0, d, h => by simp [intUp] at h; exact ⟨Nat.succ_pos _, by rw [← h]; simp⟩
  | n + 1, lo, i + 1, d, h => by
    rw [intUp, List.getElem?_cons_succ] at h
    obtain ⟨h1, h2⟩ := intUp_at n (lo + 1) i d h
    exact ⟨Nat.succ_lt_succ h1, by rw [h2]; congr 1; omega⟩
theorem itr_of {H : Hp} {θ : Th} (lo : Int) (n : Nat) : ItD G H θ (IT.fix (intUp lo n)).at_ (Itr lo n) := by
  refine ⟨fun H1 θ1 M1 ds' i d' E S1 hat hi => ?_, fun H1 θ1 M1 ds' i E S1 hat hi => ?_⟩
  · cases hat
    obtain ⟨h1, h2⟩ := intUp_at n lo i d' hi
    refine ⟨h1, fun x H2 hy => ?_⟩
    obtain ⟨e2, hy⟩ := hy
    subst e2; subst hy; subst h2
    exact ⟨θ1, Ext.refl _ _, S1, .int _⟩
  · cases hat
    rw [intUp_len] at hi
    exact hi
def small62 (i : Int) : Bool := decide (-(2 ^ 62) ≤ i) && decide (i < 2 ^ 62)
def kRg1 (ds : List D) (M : Sto) : Res IT := match ds with
  | [.int j] => if small62 j = true then .ok (IT.fix (intUp 0 j.toNat)) M else .bad
  | _ => .bad
def iRg1 (fs : FE (List D)) : FE IT := fun ρ M => (fs ρ M).bind kRg1
theorem di_range1 {p : Pos} (hm : X.mg "range" = none) (ha : DA G X [a] fs) (hg : Gl X "range" := by rfl) (hs : starEach [a] X.env = [(false, eval a X.env)] := by rfl) : DI G X tg (.Call (.Name "range" p) [a] [] pos) (iRg1 fs) := fun ok W tk => (pi_range1 hg hm (ha ok W tk) hs).imp fun σ H R q => by
  obtain ⟨ρ, θ, M, S, q⟩ := q
  refine rdA_seq (g := fun ds _ M1 => kRg1 ds M1) S q fun ds vs H1 θ1 M1 S1 E1 r1 q1 => ?_
  unfold kRg1 at q1
  split at q1
  · rename_i j
    split at q1
    · rename_i hj
      unfold small62 at hj
      rw [Bool.and_eq_true, decide_eq_true_eq, decide_eq_true_eq] at hj
      cases r1 with | cons r1 rs => cases rs; cases rep_int r1; exact ⟨j, rfl, hj.1, hj.2, q1 H1 θ1 (Ext.refl _ _) S1.2 _ (itr_of _ _)⟩
    · exact q1.elim
  · exact q1.elim
def kRg2 (ds : List D) (M : Sto) : Res IT := match ds with
  | [.int i, .int j] => if (small62 i && small62 j) = true then .ok (IT.fix (intUp i (j - i).toNat)) M else .bad
  | _ => .bad
def iRg2 (fs : FE (List D)) : FE IT := fun ρ M => (fs ρ M).bind kRg2
theorem di_range2 {p : Pos} (hm : X.mg "range" = none) (ha : DA G X [a, b] fs) (hg : Gl X "range" := by rfl) (hs : starEach [a, b] X.env = [(false, eval a X.env), (false, eval b X.env)] := by rfl) (hs2 : starEach [b] X.env = [(false, eval b X.env)] := by rfl) : DI G X tg (.Call (.Name "range" p) [a, b] [] pos) (iRg2 fs) := fun ok W tk => (pi_range2 hg hm (ha ok W tk) hs hs2).imp fun σ H R q => by
  obtain ⟨ρ, θ, M, S, q⟩ := q
  refine rdA_seq (g := fun ds _ M1 => kRg2 ds M1) S q fun ds vs H1 θ1 M1 S1 E1 r1 q1 => ?_
  unfold kRg2 at q1
  split at q1
  · rename_i i j
    split at q1
    · rename_i hj
      unfold small62 at hj
      simp only [Bool.and_eq_true, decide_eq_true_eq] at hj
      cases r1 with
      | cons r1 rs =>
        cases rs with
        | cons r2 rs =>
          cases rs
          cases rep_int r1
          cases rep_int r2
          exact ⟨i, j, rfl, ⟨hj.1.1, hj.1.2, hj.2.1, hj.2.2⟩, q1 H1 θ1 (Ext.refl _ _) S1.2 _ (itr_of _ _)⟩
    · exact q1.elim
  · exact q1.elim
/-- a text, letter by letter -/
def chrs (x : Str) : List D := x.cps.toList.map fun c => .str ⟨#[c]⟩
def kStr' (d : D) (M : Sto) : Res IT := match d with
  | .str x => .ok (IT.fix (chrs x)) M
  | _ => .bad
def iStr' (f : FE D) : FE IT := fun ρ M => (f ρ M).bind kStr'
theorem di_str (h : DE G X e f) : DI G X tg e (iStr' f) := fun ok W tk => (pi_str (h ok W tk)).imp fun σ H R q => by
  obtain ⟨ρ, θ, M, S, q⟩ := q
  refine rdE_seq (g := fun d _ M1 => kStr' d M1) S q fun d v H1 θ1 M1 S1 E1 r1 q1 => ?_
  cases d with
  | str x =>
    refine ⟨x, rep_str r1, q1 H1 θ1 (Ext.refl _ _) S1.2 _ ⟨fun H1 θ1 M1 ds' i d' E S1 hat hi => ?_, fun H1 θ1 M1 ds' i E S1 hat hi => ?_⟩⟩
    · cases hat
      unfold chrs at hi
      rw [List.getElem?_map] at hi
      obtain ⟨c, h1, h2⟩ := Option.map_eq_some_iff.mp hi
      subst h2
      have h1' : x.cps[i]? = some c := by rw [← Array.getElem?_toList]; exact h1
      refine ⟨(Array.getElem?_eq_some_iff.mp h1').1, fun y H2 hy => ?_⟩
      obtain ⟨e2, c', h3, h4⟩ := hy
      rw [h1'] at h3
      cases h3
      subst e2; subst h4
      exact ⟨θ1, Ext.refl _ _, S1, .str _⟩
    · cases hat
      unfold chrs at hi
      rw [List.length_map, Array.length_toList] at hi
      exact hi
  | _ => exact q1.elim
/-! ### for -/
/-- behind the body -/
def Out.aft (o : Out) (k : Env → Sto → Out) : Out := match o with
  | .nx ρ M => k ρ M
  | .ct ρ M => k ρ M
  | .bk ρ M => .nx ρ M
  | .rt d M => .rt d M
  | .exc c fs vs ρ M => .exc c fs vs ρ M
  | .bad => .bad
def stp (g : FG) (s : FS) (d : D) (ρ : Env) (M : Sto) (k : Env → Sto → Out) : Out := match g d ρ M with
  | some (ρ1, M1) => (s ρ1 M1).aft k
  | none => .bad
/-- over fixed items -/
def forD (g : FG) (s : FS) : List D → Env → Sto → Out
  | [], ρ, M => .nx ρ M
  | d :: ds, ρ, M => stp g s d ρ M (forD g s ds)
/-- over a changing list, n turns at most -/
def forO (g : FG) (s : FS) (l : Nat) : Nat → Nat → Env → Sto → Out
  | 0, _, _, _ => .bad
  | n + 1, i, ρ, M => match lstOf M (.own l) with
    | some ds => match ds[i]? with
      | some d => stp g s d ρ M (forO g s l n (i + 1))
      | none => .nx ρ M
    | none => .bad
def forI (g : FG) (s : FS) (m : Nat) : IT → Env → Sto → Out
  | .fix ds => forD g s ds
  | .own l => forO g s l m 0
def sFor (m : Nat) (fi : FE IT) (g : FG) (s : FS) : FS := fun ρ M => (fi ρ M).thn ρ fun p M1 => forI g s m p ρ M1
/-- the turns -/
theorem turns {W : WX} {D0 : Ends} {g : FG} {s : FS} {σ : L2.St} {H : Hp} {θ : Th} {ρ : Env} {M : Sto} {at_ : Sto → Option (List D)} {J : It} (loop : Nat → Nat → Env → Sto → Out) (m : Nat) (JD : ItD G H θ at_ J) (S : StR G σ H ρ θ M)
    (hl : ∀ m i ρ M, loop m i ρ M = .bad ∨ ∃ ds, at_ M = some ds ∧ ((ds.length ≤ i ∧ loop m i ρ M = .nx ρ M) ∨ ∃ d m', ds[i]? = some d ∧ m' < m ∧ loop m i ρ M = stp g s d ρ M (loop m' (i + 1))))
    (h : postS G W D0 H θ (loop m 0 ρ M)) : ∃ Wv : Nat → Nat → L2.St → Hp → Prop, (∃ m, Wv 0 m σ H) ∧ ∀ i m σ H, Wv i m σ H →
      (J.stop i H ∧ D0.nx σ H) ∨ (J.go i H ∧ ∃ N : L2.St → Hp → Prop, (∀ σ' H', N σ' H' → ∃ m', m' < m ∧ Wv (i + 1) m' σ' H') ∧ ∀ x H', J.yld i H x H' → rdG G g x σ H' fun σ2 H2 => rdS G W s { D0 with nx := N, ct := N, bk := D0.nx } σ2 H2) := by
  refine ⟨fun i m σ1 H1 => ∃ ρ1 θ1 M1, StR G σ1 H1 ρ1 θ1 M1 ∧ Ext H θ H1 θ1 ∧ postS G W D0 H1 θ1 (loop m i ρ1 M1), ⟨m, ρ, θ, M, S, Ext.refl _ _, h⟩, fun i m σ1 H1 hw => ?_⟩
  obtain ⟨ρ1, θ1, M1, S1, E1, q1⟩ := hw
  rcases hl m i ρ1 M1 with hb | ⟨ds, hat, hs | ⟨d, m', hi, hm, hs⟩⟩
  · rw [hb] at q1
    exact q1.elim
  · rw [hs.2] at q1
    exact .inl ⟨JD.stop H1 θ1 M1 ds i E1 S1.2 hat hs.1, q1 σ1 H1 θ1 (Ext.refl _ _) S1⟩
  · obtain ⟨hgo, hy⟩ := JD.go H1 θ1 M1 ds i d E1 S1.2 hat hi
    rw [hs] at q1
    refine .inr ⟨hgo, fun σ2 H2 => ∃ ρ2 θ2 M2, StR G σ2 H2 ρ2 θ2 M2 ∧ Ext H θ H2 θ2 ∧ postS G W D0 H2 θ2 (loop m' (i + 1) ρ2 M2), fun σ' H' hn => ⟨m', hm, hn⟩, fun x H' y => ?_⟩
    obtain ⟨θ2, E2, S2, r⟩ := hy x H' y
    unfold stp at q1
    split at q1
    · rename_i ρ2 M2 eg
      refine ⟨ρ1, θ2, M1, d, ρ2, M2, ⟨S1.1.ext E2, S2⟩, r, eg, fun σ3 H3 θ3 E3 S3 => ⟨ρ2, θ3, M2, S3, ?_⟩⟩
      have q2 := postS.base q1 (E2.trans E3)
      cases eo : s ρ2 M2 with
      | nx ρ4 M4 => rw [eo] at q2; exact fun σ4 H4 θ4 E4 S4 => ⟨ρ4, θ4, M4, S4, ((E1.trans E2).trans E3).trans E4, postS.base q2 E4⟩
      | ct ρ4 M4 => rw [eo] at q2; exact fun σ4 H4 θ4 E4 S4 => ⟨ρ4, θ4, M4, S4, ((E1.trans E2).trans E3).trans E4, postS.base q2 E4⟩
      | bk ρ4 M4 => rw [eo] at q2; exact q2
      | rt d4 M4 => rw [eo] at q2; exact q2
      | exc c4 f4 v4 ρ4 M4 => rw [eo] at q2; exact q2
      | bad => rw [eo] at q2; exact q2.elim
    · exact q1.elim
theorem ds_for {body : List Stmt} {fi : FE IT} {g : FG} {s : FS} (m : Nat) (hi : DI G X tg e fi) (hg : DG G X tg g) (hb : DSs G X body s) (hs : ∀ x, foldedSetIterable e X.env x = pure x := by intro _; rfl) : DS G X (.For tg e body [] pos) (sFor m fi g s) := fun ok po W tk => by
  refine (ps_for po ok.calm (hi ok W tk) (hg ok) (hb ok po W tk) hs).imp fun D0 σ H h => ?_
  obtain ⟨ρ, θ, M, S, q⟩ := h
  refine ⟨ρ, θ, M, S, postS.seq (g := fun p M1 => forI g s m p ρ M1) S.1 q fun p M1 H1 θ1 E S1 q1 J JD => ?_⟩
  cases p with
  | fix ds =>
    refine turns (fun m i ρ M => if m + i = ds.length then forD g s (ds.drop i) ρ M else .bad) ds.length JD ⟨S.1.ext E, S1⟩ (fun m i ρ2 M2 => ?_) ?_
    · by_cases hm : m + i = ds.length
      · refine .inr ⟨ds, rfl, ?_⟩
        show (_ ∧ (if m + i = ds.length then forD g s (ds.drop i) ρ2 M2 else .bad) = _) ∨ ∃ d m', _ ∧ _ ∧ (if m + i = ds.length then forD g s (ds.drop i) ρ2 M2 else .bad) = _
        rw [if_pos hm]
        by_cases hlt : i < ds.length
        · obtain ⟨m', rfl⟩ : ∃ m', m = m' + 1 := ⟨m - 1, by omega⟩
          refine .inr ⟨ds[i], m', List.getElem?_eq_getElem hlt, Nat.lt_succ_self _, ?_⟩
          rw [List.drop_eq_getElem_cons hlt]
          show stp g s ds[i] ρ2 M2 (forD g s (ds.drop (i + 1))) = _
          congr 1
          funext ρ3 M3
          show _ = if m' + (i + 1) = ds.length then _ else _
          rw [if_pos (by omega)]
        · refine .inl ⟨by omega, ?_⟩
          rw [List.drop_eq_nil_of_le (by omega)]
          rfl
      · left
        exact if_neg hm
    · show postS G W D0 H1 θ1 (if ds.length + 0 = ds.length then forD g s (ds.drop 0) ρ M1 else .bad)
      rw [if_pos (Nat.add_zero _), List.drop_zero]
      exact q1
  | own l =>
    refine turns (fun m i => forO g s l m i) m JD ⟨S.1.ext E, S1⟩ (fun m i ρ2 M2 => ?_) q1
    cases m with
    | zero => exact .inl rfl
    | succ m =>
      cases hat : lstOf M2 (.own l) with
      | none => exact .inl (by show forO g s l (m + 1) i ρ2 M2 = Out.bad; rw [forO, hat])
      | some ds =>
        refine .inr ⟨ds, hat, ?_⟩
        cases hi : ds[i]? with
        | none => exact .inl ⟨by simpa using hi, by show forO g s l (m + 1) i ρ2 M2 = _; rw [forO, hat]; simp [hi]⟩
        | some d => exact .inr ⟨d, m, rfl, Nat.lt_succ_self _, by show forO g s l (m + 1) i ρ2 M2 = _; rw [forO, hat]; simp [hi]⟩
/-! ### while -/
def whD (t : FE Bool) (s : FS) : Nat → Env → Sto → Out
  | 0, _, _ => .bad
  | n + 1, ρ, M => (t ρ M).thn ρ fun c M1 => if c = true then (s ρ M1).aft (whD t s n) else .nx ρ M1
def sWh (n : Nat) (t : FE Bool) (s : FS) : FS := whD t s n
/-- n: by the state at the entry -/
def sWhB (n : Env → Sto → Nat) (t : FE Bool) (s : FS) : FS := fun ρ M => whD t s (n ρ M) ρ M
theorem ds_while {body : List Stmt} {s : FS} (n : Env → Sto → Nat) (hc : DT G X c ft) (hb : DSs G X body s) : DS G X (.While c body [] pos) (sWhB n ft s) := fun ok po W tk => by
  refine (ps_while po (hc ok W tk) (hb ok po W tk)).imp fun D0 σ H h => ?_
  obtain ⟨ρ, θ, M, S, q⟩ := h
  refine ⟨fun m σ1 H1 => ∃ ρ1 θ1 M1, StR G σ1 H1 ρ1 θ1 M1 ∧ postS G W D0 H1 θ1 (whD ft s m ρ1 M1), ⟨n ρ M, ρ, θ, M, S, q⟩, fun m σ1 H1 hw => ?_⟩
  obtain ⟨ρ1, θ1, M1, S1, q1⟩ := hw
  cases m with
  | zero => exact q1.elim
  | succ m =>
    refine ⟨ρ1, θ1, M1, S1, postS.seq (g := fun c M1 => if c = true then (s ρ1 M1).aft (whD ft s m) else .nx ρ1 M1) S1.1 q1 fun c M2 H2 θ2 E2 S2 q2 => ?_⟩
    cases c with
    | false => exact iteF (q2 σ1 H2 θ2 (Ext.refl _ _) ⟨S1.1.ext E2, S2⟩)
    | true =>
      refine iteT ⟨fun σ3 H3 => ∃ ρ3 θ3 M3, StR G σ3 H3 ρ3 θ3 M3 ∧ postS G W D0 H3 θ3 (whD ft s m ρ3 M3), fun σ' H' hn => ⟨m, Nat.lt_succ_self _, hn⟩, ρ1, θ2, M2, ⟨S1.1.ext E2, S2⟩, ?_⟩
      have q2 : postS G W D0 H2 θ2 ((s ρ1 M2).aft (whD ft s m)) := q2
      cases eo : s ρ1 M2 with
      | nx ρ4 M4 => rw [eo] at q2; exact fun σ4 H4 θ4 E4 S4 => ⟨ρ4, θ4, M4, S4, postS.base q2 E4⟩
      | ct ρ4 M4 => rw [eo] at q2; exact fun σ4 H4 θ4 E4 S4 => ⟨ρ4, θ4, M4, S4, postS.base q2 E4⟩
      | bk ρ4 M4 => rw [eo] at q2; exact q2
      | rt d4 M4 => rw [eo] at q2; exact q2
      | exc c4 f4 v4 ρ4 M4 => rw [eo] at q2; exact q2
      | bad => rw [eo] at q2; exact q2.elim
end
end DL
set_option maxHeartbeats 4000000
namespace DL
open PySem PySem.Spec PyProof.Rows L2
/-! ### the promise of a def, by data -/
def postF (G : Cfg) (H : Hp) (θ : Th) (Q : VK) (E : XK) : Res D → Prop
  | .ok d M => ∀ v H' θ', Ext H θ H' θ' → StoR G H' θ' M → Rep G H' θ' v d → Q v H'
  | .exc c fs vs M => ∀ cls dd H' θ', Ext H θ H' θ' → StoR G H' θ' M → ExcR G H' θ' cls dd c fs vs → E cls dd H'
  | .bad => False
def spD (G : Cfg) (n : Nat) (F : List D → Sto → Res D) : Sp := fun vs H Q E => ∃ ds θ M, vs.length = n ∧ StoR G H θ M ∧ Reps G H θ vs ds ∧ postF G H θ Q E (F ds M)
/-- what a def comes to, from its body: n names -/
def fnD (n : Nat) (g : FS) (ds : List D) (M : Sto) : Res D := match g (ds.map some ++ List.replicate (n - ds.length) none) M with
  | .nx _ M' => .ok .non M'
  | .rt d M' => .ok d M'
  | .exc c fs vs _ M' => .exc c fs vs M'
  | _ => .bad
theorem start_rep {G : Cfg} {H : Hp} {θ : Th} {N : List Str} {vs : List V} {ds : List D} (r : Reps G H θ vs ds) : EnvR G H θ (L2.start N vs) (ds.map some ++ List.replicate (N.length - ds.length) none) := by
  unfold L2.start
  refine ⟨by simp [r.length], fun i d h => ?_⟩
  by_cases hi : i < ds.length
  · rw [List.getElem?_append_left (by simpa using hi), List.getElem?_map] at h
    obtain ⟨d', h1, h2⟩ := Option.map_eq_some_iff.mp h
    cases h2
    obtain ⟨v, h3, h4⟩ := r.get h1
    have hv : i < vs.length := by rw [r.length]; exact hi
    exact ⟨v, by rw [List.getElem?_append_left (by simpa using hv), List.getElem?_map, h3]; rfl, h4⟩
  · rw [List.getElem?_append_right (by simpa using hi), List.getElem?_replicate] at h
    split at h <;> cases h
section
variable {P : Program} {w : World} {K : PySem.W.Frag} {mg : Str → Option Value} {base : Heap} {G : Cfg}
abbrev cxD (P : Program) (w : World) (K : PySem.W.Frag) (mg : Str → Option Value) (base : Heap) (N : List Str) (qual : Str) (sc : Scope) (f : Addr) (cdv : Value) (A : Around) (outer : List PySem.Env) (s : Shared) (H : Hp) (E : XK) : Cx := cxOf (L2.CX P w) P w K mg base N qual sc f cdv A outer s H E
theorem body_data {k : Nat} {N : List Str} {qual : Str} {sc : Scope} {f : Addr} {cdv : Value} {A : Around} {outer : List PySem.Env} {s : Shared} {H : Hp} {E : XK} {g : FS} {body : List Stmt} {vs : List V} {Q : VK} (hG : G.K = K) (hr : Room k (A.deeper (envOfC qual sc s.heap.objs.size f cdv)))
    (hb : DSs G (cxD P w K mg base N qual sc f cdv A outer s H E) body g) {n : Nat} (h : spD G n (fnD N.length g) vs H Q E) :
    ∃ t, PSs (cxD P w K mg base N qual sc f cdv A outer s H E) body t ∧ t { nx := fun _ H' => Q .non H', rt := Q } (L2.start N vs) H := by
  obtain ⟨ds, θ, M, hl, S, r, q⟩ := h
  refine ⟨_, hb ⟨hG, rfl, (by have := hr.un; show (A.deeper (envOfC qual sc s.heap.objs.size f cdv)).units + 100 < cLine; omega)⟩ (passes_of rfl) _ (takes_of rfl rfl rfl rfl), _, θ, M, ⟨start_rep r, S⟩, ?_⟩
  unfold fnD at q
  cases e : g (ds.map some ++ List.replicate (N.length - ds.length) none) M with
  | nx ρ M' => rw [e] at q; exact fun σ' H' θ' E' S' => q _ H' θ' E' S'.2 .non
  | rt d M' => rw [e] at q; exact fun v H' θ' E' S' r' => q v H' θ' E' S' r'
  | exc c fs us ρ M' => rw [e] at q; exact fun cls dd σ' H' θ' E' S' x => q cls dd H' θ' E' S'.2 x
  | bk ρ M' => rw [e] at q; exact q.elim
  | ct ρ M' => rw [e] at q; exact q.elim
  | bad => rw [e] at q; exact q.elim
/-- THE RULE for a def -/
theorem fn_data {x qual : Str} {st : Stmt} {f : Addr} {fd : FuncData} {N ps : List Str} {k : Nat} {g : FS} (F : Fun K x qual st f fd) (S : FnScope N ps (defScope st)) (hG : G.K = K)
    (hb : ∀ (cdv : Value) (A : Around) (outer : List PySem.Env) (s : Shared) (H : Hp) (E : XK), Room k (A.deeper (envOfC qual (defScope st) s.heap.objs.size f cdv)) → DSs G (cxD P w K mg base N qual (defScope st) f cdv A outer s H E) (defBody st) g) :
    FnOk P w K mg base (L2.CX P w) (k + 1) f fd ps (spD G ps.length (fnD N.length g)) := F.okX S (fun vs H Q E h => h.choose_spec.choose_spec.choose_spec.1) fun cdv A outer s H vs Q E hr h => body_data hG hr (hb cdv A outer s H E hr) h
/-- a def whose code object is at c (it makes lambdas) -/
theorem fn_dataC {name qual : Str} {params : Arguments} {body : List Stmt} {scope : Scope} {dV kV doc pm ct oc cdv : Value} {an od : Option Addr} {osl : Array (Option Value)} {f : Addr} {N ps : List Str} {k : Nat} {g : FS}
    (lk : K.lookup f = some ⟨oc, od, .func (PySem.W.fnOf name qual params body scope dV kV doc pm an cdv ct), osl⟩) (hcd : PySem.W.codeIn K cdv qual = true) (S : FnScope N ps scope) (hG : G.K = K)
    (hb : ∀ (A : Around) (outer : List PySem.Env) (s : Shared) (H : Hp) (E : XK), Room k (A.deeper (envOfC qual scope s.heap.objs.size f cdv)) → DSs G (cxD P w K mg base N qual scope f cdv A outer s H E) body g) :
    FnOk P w K mg base (L2.CX P w) (k + 1) f (PySem.W.fnOf name qual params body scope dV kV doc pm an cdv ct) ps (spD G ps.length (fnD N.length g)) :=
  fn_of lk hcd S (fun vs H Q E h => h.choose_spec.choose_spec.choose_spec.1) fun A outer s H vs Q E hr h => body_data hG hr (hb A outer s H E hr) h
/-- a def that may be called -/
structure Own (G : Cfg) (P : Program) (w : World) (mg : Str → Option Value) (base : Heap) (k : Nat) (x : Str) (f : Addr) (fd : FuncData) (ps : List Str) (F : List D → Sto → Res D) : Prop where
  ok : FnOk P w G.K mg base (L2.CX P w) k f fd ps (spD G ps.length F)
  mgf : mg x = some (.ref f)
  kp : PySem.W.keepIn G.K (.ref f) = true
  b : Binds G.K fd ps []
end
section
variable {G : Cfg} {X : Cx} {e : Expr} {es : List Expr} {fs : FE (List D)} {pos p : Pos} {x : Str} {f : Addr} {fd : FuncData} {ps : List Str} {F : List D → Sto → Res D} {j k : Nat}
def dCallF (F : List D → Sto → Res D) (fs : FE (List D)) : FE D := fun ρ M => (fs ρ M).bind F
theorem callF_post {W : WX} {σ : L2.St} {H : Hp} {θ : Th} {r : Res D} {Q : VK} (q : postR G W σ H θ (fun H' θ' _ d => ∀ v, Rep G H' θ' v d → Q v H') r) : postF G H θ Q (WE W σ) r := by
  cases r with
  | ok d M => exact fun v H' θ' E S r => q H' θ' E S v r
  | exc c fs vs M => exact q
  | bad => exact q
theorem de_call (Fo : Own G X.prog X.w X.mg X.base j x f fd ps F) (hr : Room k X.A) (hj : j ≤ k) (ha : DA G X (e :: es) fs) (hn : (e :: es).length = ps.length := by rfl) (hg : Gl X x := by rfl) (hdb : (x == ("__debug__" : Str)) = false := by decide)
    (he : starEach (e :: es) X.env = (false, eval e X.env) :: starEach es X.env := by rfl) (hpl : (backTo pos (starEach es X.env)).any (·.1) = false := by rfl) (hlen : ∀ ρ M ds M', fs ρ M = .ok ds M' → ds.length = (e :: es).length := by intros; assumption) :
    DE G X (.Call (.Name x p) (e :: es) [] pos) (dCallF F fs) := fun ok W tk => by
  have FO := Fo.ok
  have kp := Fo.kp
  have b := Fo.b
  rw [ok.hk] at FO kp b
  refine (pe_callS FO (hr.mono hj) hg Fo.mgf kp b (fun σ => passAt tk σ) (ha ok W tk) hdb he hpl).imp fun σ H Q h => ?_
  obtain ⟨ρ, θ, M, S, q⟩ := h
  refine ⟨ρ, θ, M, S, ?_⟩
  cases e1 : fs ρ M with
  | ok ds M1 =>
    have q : postR G W σ H θ (fun H' θ' _ d => ∀ v, Rep G H' θ' v d → Q v H') ((fs ρ M).bind F) := q
    rw [e1] at q
    intro H1 θ1 E1 S1 vs r1
    exact ⟨ds, θ1, M1, by rw [r1.length, hlen ρ M ds M1 e1, hn], S1, r1, callF_post (postR.base q E1)⟩
  | exc c fs' vs M1 =>
    have q : postR G W σ H θ (fun H' θ' _ d => ∀ v, Rep G H' θ' v d → Q v H') ((fs ρ M).bind F) := q
    rw [e1] at q
    exact q
  | bad =>
    have q : postR G W σ H θ (fun H' θ' _ d => ∀ v, Rep G H' θ' v d → Q v H') ((fs ρ M).bind F) := q
    rw [e1] at q
    exact q
theorem len_nil : ∀ ρ M ds M', dNil ρ M = .ok ds M' → ds.length = 0 := fun ρ M ds M' h => by cases h; rfl
theorem len_cons {n : Nat} {fa : FE D} {fr : FE (List D)} (h : ∀ ρ M ds M', fr ρ M = .ok ds M' → ds.length = n) : ∀ ρ M ds M', dCons fa fr ρ M = .ok ds M' → ds.length = n + 1 := fun ρ M ds M' e => by
  unfold dCons at e
  cases e1 : fa ρ M with
  | ok x M1 =>
    rw [e1] at e
    have e : (fr ρ M1).bind (fun xs M2 => .ok (x :: xs) M2) = .ok ds M' := e
    cases e2 : fr ρ M1 with
    | ok xs M3 => rw [e2] at e; cases e; rw [List.length_cons, h ρ M1 xs _ e2]
    | exc c f v M2 => rw [e2] at e; cases e
    | bad => rw [e2] at e; cases e
  | exc c f v M1 => rw [e1] at e; cases e
  | bad => rw [e1] at e; cases e
end
/-! ### keywords -/
/-- the values in the parameters' order -/
def gath {α : Type} (n m : Nat) (ix : List Nat) (us ws : List α) : List α := if us.length = n ∧ ws.length = m then ix.filterMap ((us ++ ws)[·]?) else []
theorem gath_vals {n m : Nat} : ∀ {ix : List Nat} {vs zs : List V} {us ws : List Value}, Vals vs us → Vals zs ws → Vals (gath n m ix vs zs) (gath n m ix us ws) := fun {ix vs zs us ws} h1 h2 => by
  unfold gath
  rw [h1.length, h2.length]
  split
  · have h := h1.append h2
    induction ix with
    | nil => exact .nil
    | cons i ix ih =>
      rw [List.filterMap_cons, List.filterMap_cons]
      cases e : (vs ++ zs)[i]? with
      | none => rw [h.none_of e]; exact ih
      | some v =>
        obtain ⟨u, e2, r⟩ := h.get e
        rw [e2]
        exact .cons r ih
  · exact .nil
theorem gath_reps {G : Cfg} {H : Hp} {θ : Th} {n m : Nat} : ∀ {ix : List Nat} {vs zs : List V} {us ws : List D}, Reps G H θ vs us → Reps G H θ zs ws → Reps G H θ (gath n m ix vs zs) (gath n m ix us ws) := fun {ix vs zs us ws} h1 h2 => by
  unfold gath
  rw [h1.length, h2.length]
  split
  · have h := h1.append h2
    induction ix with
    | nil => exact .nil
    | cons i ix ih =>
      rw [List.filterMap_cons, List.filterMap_cons]
      cases e : (us ++ ws)[i]? with
      | none =>
        have e' : (vs ++ zs)[i]? = none := by
          rw [List.getElem?_eq_none_iff] at e ⊢
          rw [h.length]
          exact e
        rw [e']
        exact ih
      | some v =>
        obtain ⟨u, e2, r⟩ := h.get e
        rw [e2]
        exact .cons r ih
  · exact .nil
theorem fun_kb {K : PySem.W.Frag} {x qual : Str} {st : Stmt} {f : Addr} {fd : FuncData} {ps ks : List Str} {n m : Nat} {ix : List Nat} (F : Fun K x qual st f fd) (hp : 0 < ps.length)
    (h : ∀ (kV doc pm : Value) (an : Option Addr) (cdv ct : Value) (us ws : List Value), us.length = n → ws.length = m → bindArgs (PySem.W.fnOf x qual (defArgs st) (defBody st) (defScope st) .none kV doc pm an cdv ct) ⟨us, ks.zip ws⟩ = pure (ps.zip (gath n m ix us ws))) :
    KBinds K fd ps ks (gath n m ix) (gath n m ix) := by
  obtain ⟨oc, od, kV, doc, pm, an, cdv, ct, osl, rfl, lk, hcd⟩ := F.ex
  refine ⟨fun s us ws _ hl => .of_eq ?_, gath_vals⟩
  by_cases hc : us.length = n ∧ ws.length = m
  · exact h kV doc pm an cdv ct us ws hc.1 hc.2
  · exfalso
    unfold gath at hl
    rw [if_neg hc] at hl
    rw [← hl] at hp
    exact Nat.lt_irrefl _ hp
section
variable {G : Cfg} {X : Cx} {e : Expr} {es : List Expr} {fs fk : FE (List D)} {pos p : Pos} {x : Str} {f : Addr} {fd : FuncData} {ps ks : List Str} {F : List D → Sto → Res D} {j k n m : Nat} {ix : List Nat} {kws : List Keyword}
def DK (G : Cfg) (X : Cx) (kws : List Keyword) (f : FE (List D)) : Prop := Okc G X → ∀ W, Takes X W → PK X kws (rdA G W f)
theorem PK.imp' {t t' : TA} (h : PK X kws t) (k : ∀ σ H Q, t' σ H Q → t σ H Q) : PK X kws t' := ⟨fun pos pins s σ H Q I q => h.run pos pins s σ H Q I (k σ H Q q)⟩
theorem dk_nil : DK G X [] dNil := fun ok W tk => PK.imp' pk_nil fun σ H Q h => by
  obtain ⟨ρ, θ, M, S, q⟩ := h
  exact q H θ (Ext.refl _ _) S.2 _ .nil
theorem dk_cons {nm : Option Str} {kp : Pos} {fa : FE D} {fr : FE (List D)} (ha : DE G X e fa) (hr : DK G X kws fr) : DK G X (⟨nm, e, kp⟩ :: kws) (dCons fa fr) := fun ok W tk => by
  refine PK.imp' (pk_cons (ha ok W tk) (hr ok W tk)) fun σ H Q h => ?_
  obtain ⟨ρ, θ, M, S, q⟩ := h
  refine rdE_seq (g := fun x ρ M1 => (fr ρ M1).bind fun xs M2 => .ok (x :: xs) M2) S q fun x v H1 θ1 M1 S1 E1 r1 q1 => ?_
  exact rdA_seq (g := fun xs _ M2 => .ok (x :: xs) M2) S1 q1 fun xs vs H2 θ2 M2 S2 E2 r2 q2 => q2 H2 θ2 (Ext.refl _ _) S2.2 _ (.cons (r1.ext E2) r2)
def dCallK (F : List D → Sto → Res D) (n m : Nat) (ix : List Nat) (fs fk : FE (List D)) : FE D := fun ρ M => (fs ρ M).bind fun ds M1 => (fk ρ M1).bind fun es M2 => F (gath n m ix ds es) M2
theorem run_K {pins : List (Addr × Obj)} {σ : L2.St} {H : Hp} {s : Shared} {Q : VK} {us ws : List Value} {vs zs : List V} {sp : Sp} {g : List Value → List Value → List Value} {gV : List V → List V → List V} {E : XK} (FO : FnOk X.prog X.w X.K X.mg X.base (L2.CX X.prog X.w) k f fd ps sp) (hr : Room k X.A) (hb : KBinds X.K fd ps ks g gV)
    (hx : PassesAt (L2.CX X.prog X.w) X σ E) (I : Inv X pins σ H s) (r : Vals vs us) (rz : Vals zs ws) (h : sp (gV vs zs) H Q E) : wpAny (model X.prog X.w) X.A (call (.ref f) us (ks.zip ws)) (EP X pins σ Q) X.xe s := by
  have r2 := hb.rel r rz
  have hl : (g us ws).length = ps.length := r2.length.symm.trans (FO.len _ _ _ _ h)
  have run := FO.run X.A X.stack s H ⟨us, ks.zip ws⟩ (g us ws) (gV vs zs) Q E hr I.env0 (hb.to s us ws I.kIn hl) r2 h
  exact wpAny_call (codeAny_mono run fun res s' hq => match res, hq with
    | .error e, hq => hx pins H s e s' I hq
    | .ok (.ret u), hq => I.after hq
    | .ok .next, hq => False.elim hq
    | .ok .brk, hq => False.elim hq
    | .ok .cont, hq => False.elim hq)
theorem de_callK0 (Fo : Own G X.prog X.w X.mg X.base j x f fd ps F) (hb : KBinds G.K fd ps ks (gath 0 m ix) (gath 0 m ix)) (hr : Room k X.A) (hj : j ≤ k) (hkw : DK G X kws fk) (hn : ∀ (ds : List D), ds.length = m → (gath 0 m ix [] ds).length = ps.length)
    (hlen : ∀ ρ M ds M', fk ρ M = .ok ds M' → ds.length = m) (hg : Gl X x := by rfl) (hdb : (x == ("__debug__" : Str)) = false := by decide) (hall : (backToKw pos (keywordEach kws X.env)).all (·.1.isSome) = true := by rfl) (hks : (backToKw pos (keywordEach kws X.env)).filterMap (·.1) = ks := by rfl)
    (hpl : ((backTo pos (starEach [] X.env)).any (·.1) || (backToKw pos (keywordEach kws X.env)).any (·.1.isNone)) = false := by rfl) :
    DE G X (.Call (.Name x p) [] kws pos) (dCallK F 0 m ix dNil fk) := fun ok W tk => ⟨fun pins s σ H Q I h => by
  have FO := Fo.ok
  have kp := Fo.kp
  rw [ok.hk] at FO kp hb
  refine wpAny_Call_Name_kw (ld_glob I hg Fo.mgf ?_ hdb)
  refine PySem.W.callWith_KW0 (h₀ := X.base) I.ok.mod.kin kp hall ?_ hpl
  obtain ⟨ρ, θ, M, S, q⟩ := h
  have q : postR G W σ H θ (fun H' θ' _ d => ∀ v, Rep G H' θ' v d → Q v H') ((fk ρ M).bind fun es M2 => F (gath 0 m ix [] es) M2) := q
  refine thn ((hkw ok W tk).run pos pins s σ H (fun vs H1 => spD G ps.length F (gath 0 m ix [] vs) H1 Q (WE W σ)) I ⟨ρ, θ, M, S, ?_⟩) fun ws s2 ⟨zs, H2, I2, rz, q2⟩ => ⟨I2.kIn, ?_⟩
  · cases e1 : fk ρ M with
    | ok ds M1 =>
      rw [e1] at q
      intro H1 θ1 E1 S1 vs r1
      have rr : Reps G H1 θ1 (gath 0 m ix [] vs) (gath 0 m ix [] ds) := gath_reps .nil r1
      exact ⟨_, θ1, M1, by rw [rr.length, hn ds (hlen ρ M ds M1 e1)], S1, rr, callF_post (postR.base q E1)⟩
    | exc c f' v' M1 => rw [e1] at q; exact q
    | bad => rw [e1] at q; exact q
  · rw [hks]
    exact run_K FO (hr.mono hj) hb (passAt tk σ) I2 .nil rz q2⟩
theorem de_callKw (Fo : Own G X.prog X.w X.mg X.base j x f fd ps F) (hb : KBinds G.K fd ps ks (gath n m ix) (gath n m ix)) (hr : Room k X.A) (hj : j ≤ k) (ha : DA G X (e :: es) fs) (hkw : DK G X kws fk) (hn : ∀ (us ds : List D), us.length = n → ds.length = m → (gath n m ix us ds).length = ps.length)
    (hlen0 : ∀ ρ M ds M', fs ρ M = .ok ds M' → ds.length = n) (hlen : ∀ ρ M ds M', fk ρ M = .ok ds M' → ds.length = m) (hg : Gl X x := by rfl) (hdb : (x == ("__debug__" : Str)) = false := by decide) (hall : (backToKw pos (keywordEach kws X.env)).all (·.1.isSome) = true := by rfl)
    (hks : (backToKw pos (keywordEach kws X.env)).filterMap (·.1) = ks := by rfl) (he : starEach (e :: es) X.env = (false, eval e X.env) :: starEach es X.env := by rfl)
    (hpl : ((backTo pos (starEach (e :: es) X.env)).any (·.1) || (backToKw pos (keywordEach kws X.env)).any (·.1.isNone)) = false := by rfl) :
    DE G X (.Call (.Name x p) (e :: es) kws pos) (dCallK F n m ix fs fk) := fun ok W tk => ⟨fun pins s σ H Q I h => by
  have FO := Fo.ok
  have kp := Fo.kp
  rw [ok.hk] at FO kp hb
  refine wpAny_Call_Name_kw (ld_glob I hg Fo.mgf ?_ hdb)
  obtain ⟨ρ, θ, M, S, q⟩ := h
  have I0 := I
  refine PySem.W.callWith_KW (h₀ := X.base) I.ok.mod.kin kp hall (thn ((ha ok W tk).run pos pins s σ H (fun vs H1 => rdA G W fk σ H1 fun zs H2 => spD G ps.length F (gath n m ix vs zs) H2 Q (WE W σ)) I ⟨ρ, θ, M, S, ?_⟩) fun us s1 ⟨vs, H1, I1, r, q1⟩ => ?_) hpl he
  · have q : postR G W σ H θ (fun H' θ' _ d => ∀ v, Rep G H' θ' v d → Q v H') ((fs ρ M).bind fun ds M1 => (fk ρ M1).bind fun es M2 => F (gath n m ix ds es) M2) := q
    cases e0 : fs ρ M with
    | ok us M1 =>
      rw [e0] at q
      intro H1 θ1 E1 S1 vs r1
      refine ⟨ρ, θ1, M1, S.ext E1 S1, ?_⟩
      have q1 := postR.base (show postR G W σ H θ (fun H' θ' _ d => ∀ v, Rep G H' θ' v d → Q v H') ((fk ρ M1).bind fun es M2 => F (gath n m ix us es) M2) from q) E1
      cases e1 : fk ρ M1 with
      | ok ds M2 =>
        rw [e1] at q1
        intro H2 θ2 E2 S2 zs r2
        have rr : Reps G H2 θ2 (gath n m ix vs zs) (gath n m ix us ds) := gath_reps (r1.ext E2) r2
        exact ⟨_, θ2, M2, by rw [rr.length, hn us ds (hlen0 ρ M us M1 e0) (hlen ρ M1 ds M2 e1)], S2, rr, callF_post (postR.base q1 E2)⟩
      | exc c f' v' M1 => rw [e1] at q1; exact q1
      | bad => rw [e1] at q1; exact q1
    | exc c f' v' M1 => rw [e0] at q; exact q
    | bad => rw [e0] at q; exact q
  · refine thn ((hkw ok W tk).run pos pins s1 σ H1 _ I1 q1) fun ws s2 ⟨zs, H2, I2, rz, q2⟩ => ⟨I2.kIn, ?_⟩
    rw [hks]
    exact run_K FO (hr.mono hj) hb (passAt tk σ) I2 r rz q2⟩
end
/-! ### raise X('text'), an own class without __init__ -/
/-- an own exception class, the c-th of G -/
structure Exd (G : Cfg) (mg : Str → Option Value) (x : Str) (c : Nat) (C : Addr) : Prop where
  at_ : G.exs[c]? = some C
  q : ∃ (B newId initId : String) (bmB : List Value), ExcBaseFacts B newId initId bmB ∧ PySem.W.excIn G.K C bmB newId = true
  gC : mg x = some (.ref C)
  kC : PySem.W.keepIn G.K (.ref C) = true
  s1 : PySem.W.subIn G.K (.ref C) (.type "BaseException") = some true
  s2 : PySem.W.typeIn G.K (.ref C) = some (.type "type")
section
variable {G : Cfg} {X : Cx} {x m : Str} {c j : Nat} {C : Addr} {p p2 pos pos2 : Pos}
def sRaise (c : Nat) : FS := fun ρ M => .exc c [] [] ρ M
theorem ds_raise (F : Exd G X.mg x c C) (hg : Gl X x := by rfl) (hdb : (x == ("__debug__" : Str)) = false := by decide) : DS G X (.Raise (some (.Call (.Name x p) [.Constant (.str m) j p2] [] pos)) none pos2) (sRaise c) := fun ok po W tk => by
  obtain ⟨B, newId, initId, bmB, F1, F2⟩ := F.q
  have kC := F.kC
  have s1 := F.s1
  have s2 := F.s2
  rw [ok.hk] at F2 kC s1 s2
  refine (ps_raise ok.calm tk (pmk_own F1 F2 F.gC kC (raises_own s1 s2) hg hdb)).imp fun D0 σ H h => ?_
  obtain ⟨ρ, θ, M, S, q⟩ := h
  exact q (.ref C) none σ H θ (Ext.refl _ _) S ⟨C, F.at_, rfl, .inl ⟨rfl, rfl, rfl⟩⟩
end
end DL
set_option maxHeartbeats 4000000
namespace DL
open PySem PySem.Spec PyProof.Rows L2
/-! ### a hidden object is finished: shown as a value, or among the changing ones -/
/-- the hidden p gets the next label -/
def Th.adopt (θ : Th) (p : Addr) (h : p ∈ θ.av) : Th := ⟨θ.av, θ.lb ++ [p], fun a ha => by
  rcases List.mem_append.mp ha with ha | ha
  · exact θ.sub a ha
  · rw [List.mem_singleton.mp ha]; exact h⟩
section
variable {G : Cfg} {H H1 H2 : Hp} {θ θ1 θ2 : Th} {M M' : Sto} {p : Addr} {o o' : HO}
theorem hid_keep (S : StoR G H θ M) (hp : H p = none) (E : Ext (upd H p o) (θ.hid p) H2 θ2) (ht : ∀ ps, o ≠ .tbl ps) : H2 p = some o ∧ p ∈ θ2.av ∧ p ∉ θ2.lb := by
  have nl : p ∉ (θ.hid p).lb := fun z => S.out hp (θ.sub p z)
  exact ⟨E.keep p o upd_same nl ht, E.sub p List.mem_cons_self, E.outl upd_same nl ht⟩
theorem hid_ext (S : StoR G H θ M) (hp : H p = none) (E : Ext (upd H p o) (θ.hid p) H2 θ2) (ht : ∀ ps, o ≠ .tbl ps) : Ext H θ (upd H2 p o') (θ2.unh p) := by
  obtain ⟨h1, h2, h3⟩ := hid_keep S hp E ht
  have E0 : Ext H θ H2 θ2 := (Ext.allocHid hp o).trans E
  exact ⟨E0.pre, fun a ha => List.mem_filter.mpr ⟨E0.sub a ha, by
    have z : a ≠ p := fun z => S.out hp (by rw [← z]; exact ha)
    simp [z]⟩, fun b u hb n t => by
    rw [upd_ne (ne_of_none hb hp)]
    exact E0.keep b u hb n t, fun b hb n => E0.new b (Th.unh_sub θ2 p b hb) n, E0.newl⟩
theorem hid_sto (S2 : StoR G H2 θ2 M') (h1 : p ∈ θ2.av) (h2 : p ∉ θ2.lb) (h3 : H2 p = some o) (pl : Plain o) (po : ∀ ps, o' ≠ .tbl ps) : StoR G (upd H2 p o') (θ2.unh p) M' := (S2.touch h1 h2 h3 pl po).less (Th.unh_sub θ2 p) rfl
theorem hid_rep {v : V} {d : D} (h1 : p ∈ θ2.av) (r : Rep G H2 θ2 v d) : Rep G (upd H2 p o') (θ2.unh p) v d := (r.touch h1).less (Th.unh_sub θ2 p) ⟨[], by simp [Th.unh]⟩
theorem hid_reps {v : List V} {d : List D} (h1 : p ∈ θ2.av) (r : Reps G H2 θ2 v d) : Reps G (upd H2 p o') (θ2.unh p) v d := (r.touch h1).less (Th.unh_sub θ2 p) ⟨[], by simp [Th.unh]⟩
/-- .. among the changing ones -/
theorem ad_ext (S : StoR G H θ M) (hp : H p = none) (E : Ext (upd H p o) (θ.hid p) H2 θ2) (h1 : p ∈ θ2.av) : Ext H θ (upd H2 p o') (θ2.adopt p h1) := by
  have E0 : Ext H θ H2 θ2 := (Ext.allocHid hp o).trans E
  exact ⟨E0.pre.trans ⟨[p], rfl⟩, E0.sub, fun b u hb n t => by
    rw [upd_ne (ne_of_none hb hp)]
    exact E0.keep b u hb n t, E0.new, fun b hb n u e => by
    rcases List.mem_append.mp hb with hb | hb
    · exact E0.newl b hb n u e
    · rw [List.mem_singleton.mp hb, hp] at e
      cases e⟩
theorem ad_reps {v : List V} {d : List D} (h1 : p ∈ θ2.av) (r : Reps G H2 θ2 v d) : Reps G (upd H2 p o') (θ2.adopt p h1) v d := Reps.less (θ := θ2) (θ' := θ2.adopt p h1) (fun a h => h) ⟨[p], rfl⟩ (r.touch h1)
theorem ad_sto (S2 : StoR G H2 θ2 M') (h1 : p ∈ θ2.av) (h2 : p ∉ θ2.lb) (h3 : H2 p = some o) (pl : Plain o) {m : MO} (r : MOR G (upd H2 p o') (θ2.adopt p h1) p m) : StoR G (upd H2 p o') (θ2.adopt p h1) (M' ++ [m]) := by
  obtain ⟨om, em, pm⟩ := r.there
  have em2 : om = o' := Option.some.inj (em.symm.trans upd_same)
  subst em2
  have S3 := S2.touch h1 h2 h3 pl pm.1
  refine ⟨?_, ?_, fun n m' e => ?_, S3.tabs, S3.hid⟩
  · show (θ2.lb ++ [p]).Nodup
    rw [List.nodup_append]
    exact ⟨S2.nd, by simp, fun b hb c hc e => h2 (by rw [List.mem_singleton.mp hc] at e; rw [← e]; exact hb)⟩
  · show (θ2.lb ++ [p]).length = _
    rw [List.length_append, List.length_append, S2.len]
    rfl
  · show ∃ a, (θ2.lb ++ [p])[n]? = some a ∧ _
    by_cases hn : n < M'.length
    · rw [List.getElem?_append_left hn] at e
      obtain ⟨b, e1, e2⟩ := S3.at_ n m' e
      exact ⟨b, by rw [List.getElem?_append_left (by rw [S2.len]; exact hn)]; exact e1, MOR.less (θ := θ2) (θ' := θ2.adopt p h1) e2 (fun a h => h) ⟨[p], rfl⟩⟩
    · have hn' : M'.length ≤ n := Nat.le_of_not_lt hn
      rw [List.getElem?_append_right hn'] at e
      have e0 : n - M'.length = 0 := by
        cases q : n - M'.length with
        | zero => rfl
        | succ j => rw [q] at e; simp at e
      rw [e0] at e
      have em : m' = m := by simpa using e.symm
      subst em
      exact ⟨p, by rw [List.getElem?_append_right (by rw [S2.len]; exact hn'), S2.len, e0]; rfl, r⟩
theorem ad_own (S2 : StoR G H2 θ2 M') (h1 : p ∈ θ2.av) : (θ2.adopt p h1).lb[M'.length]? = some p := by
  show (θ2.lb ++ [p])[M'.length]? = some p
  rw [List.getElem?_append_right (by rw [S2.len]; exact Nat.le_refl _), S2.len, Nat.sub_self]
  rfl
end
/-! ### dicts -/
def keyOf : D → Option Key
  | .int i => some (.inl i)
  | .str x => some (.inr x)
  | _ => none
theorem rep_key {G : Cfg} {H : Hp} {θ : Th} {v : V} {d : D} {k : Key} (r : Rep G H θ v d) (h : keyOf d = some k) : v = kV k := by
  cases d with
  | int i => cases h; exact rep_int r
  | str x => cases h; exact rep_str r
  | _ => cases h
def dicOf (M : Sto) : D → Option (List Key × List D)
  | .dic ks vs => some (ks, vs)
  | .own n => match M[n]? with
    | some (.dic ks vs) => some (ks, vs)
    | _ => none
  | _ => none
def lookD : List Key → List D → Key → Option D
  | a :: ks, d :: vs, k => if a = k then some d else lookD ks vs k
  | _, _, _ => none
def hasK (ks : List Key) (k : Key) : Bool := ks.any fun a => decide (a = k)
def putKs (ks : List Key) (k : Key) : List Key := if hasK ks k = true then ks else ks ++ [k]
def setVs : List Key → List D → Key → D → List D
  | a :: ks, v :: vs, k, d => (if a = k then d else v) :: setVs ks vs k d
  | _, vs, _, _ => vs
def putVs (ks : List Key) (vs : List D) (k : Key) (d : D) : List D := if hasK ks k = true then setVs ks vs k d else vs ++ [d]
section
variable {G : Cfg} {H : Hp} {θ : Th} {M : Sto}
theorem rep_dic {v : V} {d : D} {ks : List Key} {vs : List D} (S : StoR G H θ M) (r : Rep G H θ v d) (h : dicOf M d = some (ks, vs)) : ∃ a kvs, v = .ref a ∧ H a = some (.dK kvs) ∧ kvs.map (·.1) = ks ∧ Reps G H θ (kvs.map (·.2)) vs := by
  cases r with
  | dic h' n hk r => cases h; exact ⟨_, _, rfl, h', hk, r⟩
  | @own a n h' =>
    have h2 : (match M[n]? with | some (MO.dic ks vs) => some (ks, vs) | _ => none) = some (ks, vs) := h
    split at h2
    · rename_i hm
      cases h2
      obtain ⟨kvs, e, hk, r⟩ := S.own h' hm
      exact ⟨_, kvs, rfl, e, hk, r⟩
    · cases h2
  | _ => cases h
theorem lookD_ok : ∀ {kvs : List (Key × V)} {ks : List Key} {vs : List D} {k : Key} {d : D}, kvs.map (·.1) = ks → Reps G H θ (kvs.map (·.2)) vs → lookD ks vs k = some d → ∃ v, valV kvs k = some v ∧ Rep G H θ v d
  | [], ks, vs, k, d, hk, r, h => by
    simp at hk
    subst hk
    simp [lookD] at h
  | (a, v) :: kvs, ks, vs, k, d, hk, r, h => by
    subst hk
    cases r with
    | cons r rs =>
      simp only [List.map_cons, lookD] at h
      split at h
      · rename_i e
        cases h
        exact ⟨v, valV_pos e, r⟩
      · rename_i e
        obtain ⟨u, h1, h2⟩ := lookD_ok (kvs := kvs) rfl rs h
        exact ⟨u, by rw [valV_neg e]; exact h1, h2⟩
theorem any_key {kvs : List (Key × V)} {k : Key} : hasK (kvs.map (·.1)) k = (kvs.any fun kv => decide (kv.1 = k)) := by
  unfold hasK
  rw [List.any_map]
  rfl
theorem putK_ok {kvs : List (Key × V)} {ks : List Key} {vs : List D} {k : Key} {v : V} {d : D} (hk : kvs.map (·.1) = ks) (rs : Reps G H θ (kvs.map (·.2)) vs) (r : Rep G H θ v d) :
    (putK kvs k v).map (·.1) = putKs ks k ∧ Reps G H θ ((putK kvs k v).map (·.2)) (putVs ks vs k d) := by
  subst hk
  unfold putK putKs putVs
  rw [any_key]
  by_cases h : (kvs.any fun kv => decide (kv.1 = k)) = true
  · rw [if_pos h, if_pos h, if_pos h]
    clear h
    refine ⟨?_, ?_⟩
    · rw [List.map_map]
      apply List.map_congr_left
      intro q _
      show (if q.1 = k then (q.1, v) else q).1 = q.1
      split <;> rfl
    · induction kvs generalizing vs with
      | nil => cases rs; exact .nil
      | cons p l ih =>
        cases rs with
        | cons r1 rs =>
          rw [List.map_cons, List.map_cons]
          show Reps G H θ _ ((if p.1 = k then d else _) :: setVs (l.map (·.1)) _ k d)
          refine .cons ?_ (ih rs)
          by_cases e : p.1 = k
          · rw [if_pos e, if_pos e]; exact r
          · rw [if_neg e, if_neg e]; exact r1
  · rw [if_neg h, if_neg h, if_neg h]
    exact ⟨by simp, by rw [List.map_append]; exact rs.append (.cons r .nil)⟩
end
section
variable {G : Cfg} {X : Cx} {a b c e : Expr} {es : List Expr} {fa fb fc f : FE D} {fs : FE (List D)} {ft : FE Bool} {pos pos' : Pos}
def gDGet (M : Sto) (x y : D) : Option D := match keyOf y with
  | some k => match dicOf M x with
    | some (ks, vs) => lookD ks vs k
    | none => none
  | none => none
theorem de_dget (ha : DE G X a fa) (hb : DE G X b fb) (hs : NoSl b := by exact fun _ _ => rfl) : DE G X (.Subscript a b pos) (dBin gDGet fa fb) := fun ok W tk => by
  refine (pe_dget (by have := ok.hu; omega) (ha ok W tk) (hb ok W tk) hs).imp fun σ H Q h => ?_
  obtain ⟨ρ, θ, M, S, q⟩ := h
  refine rdE_seq (g := fun x ρ M1 => (fb ρ M1).bind fun y N => .ofO (gDGet N x y) N) S q fun x v H1 θ1 N1 S1 E1 r1 q1 => ?_
  refine rdE_seq (g := fun y ρ N => .ofO (gDGet N x y) N) S1 q1 fun y u H2 θ2 N2 S2 E2 r2 q2 => ?_
  cases eg : gDGet N2 x y with
  | none => rw [eg] at q2; exact q2.elim
  | some d =>
    rw [eg] at q2
    unfold gDGet at eg
    split at eg
    · rename_i k hk
      split at eg
      · rename_i ks vs hd
        obtain ⟨p, kvs, e1, e2, e3, e4⟩ := rep_dic S2.2 (r1.ext E2) hd
        obtain ⟨z, h1, h2⟩ := lookD_ok e3 e4 eg
        have ek := rep_key r2 hk
        subst ek
        refine ⟨p, z, e1, ?_, q2 H2 θ2 (Ext.refl _ _) S2.2 z h2⟩
        rw [← h1]
        exact DGet.k e2
      · cases eg
    · cases eg
/-- d[k] = v -/
def sDP (fo fi fv : FE D) : FS := fun ρ M => (fv ρ M).thn ρ fun v M1 => (fo ρ M1).thn ρ fun o M2 => (fi ρ M2).thn ρ fun y M3 => match o with
  | .own n => match keyOf y with
    | some k => match M3[n]? with
      | some (.dic ks vs) => if ks.length < sizeLine then .nx ρ (M3.set n (.dic (putKs ks k) (putVs ks vs k v))) else .bad
      | _ => .bad
    | none => .bad
  | _ => .bad
def kDP (ρ : Env) (v o y : D) (M3 : Sto) : Out := match o with
  | .own n => match keyOf y with
    | some k => match M3[n]? with
      | some (.dic ks vs) => if ks.length < sizeLine then .nx ρ (M3.set n (.dic (putKs ks k) (putVs ks vs k v))) else .bad
      | _ => .bad
    | none => .bad
  | _ => .bad
theorem ds_dput (ho : DE G X a fa) (hi : DE G X b fb) (hv : DE G X e f) (hs : swapsWith e (some (.Subscript a b pos')) pos.line X.env = pure false := by rfl) : DS G X (.Assign [.Subscript a b pos'] e pos) (sDP fa fb f) := fun ok po W tk => by
  refine (ps_dput (by have := ok.hu; omega) (ho ok W tk) (hi ok W tk) (hv ok W tk) hs).imp fun D0 σ H h => ?_
  obtain ⟨ρ, θ, M, S, q⟩ := h
  refine ⟨ρ, θ, M, S, postS.seq (g := fun v M1 => (fa ρ M1).thn ρ fun o M2 => (fb ρ M2).thn ρ fun y M3 => kDP ρ v o y M3) S.1 q fun v N1 H1 θ1 E1 S1 q1 v' r1 => ?_⟩
  refine ⟨ρ, θ1, N1, ⟨S.1.ext E1, S1⟩, postS.seq (g := fun o M2 => (fb ρ M2).thn ρ fun y M3 => kDP ρ v o y M3) (S.1.ext E1) q1 fun o N2 H2 θ2 E2 S2 q2 o' r2 => ?_⟩
  refine ⟨ρ, θ2, N2, ⟨(S.1.ext E1).ext E2, S2⟩, postS.seq (g := fun y M3 => kDP ρ v o y M3) ((S.1.ext E1).ext E2) q2 fun y N3 H3 θ3 E3 S3 q3 y' r3 => ?_⟩
  unfold kDP at q3
  split at q3
  · rename_i n
    split at q3
    · rename_i k hk
      split at q3
      · rename_i ks vs hm
        split at q3
        · rename_i hz
          cases r2.ext E3 with
          | @own p _ hn =>
            obtain ⟨kvs, e1, e2, e3⟩ := S3.own hn hm
            have ek := rep_key r3 hk
            subst ek
            have E4 := Ext.write (H := H3) (List.mem_of_getElem? hn) (.dK (putK kvs k v'))
            have pk := putK_ok (k := k) e2 e3 ((r1.ext E2).ext E3)
            refine ⟨p, _, rfl, DPut.k e1 (by rw [← List.length_map (f := (·.1)), e2]; exact hz), q3 _ _ θ3 E4 ⟨(((S.1.ext E1).ext E2).ext E3).ext E4, S3.set hn ⟨_, upd_same, pk.1, pk.2.ext E4⟩⟩⟩
        · exact q3.elim
      · exact q3.elim
    · exact q3.elim
  · exact q3.elim
/-! ### displays of dicts -/
def dPairs : List (FE D × FE D) → FE (List (D × D))
  | [], _, M => .ok [] M
  | (fk, fv) :: r, ρ, M => (fk ρ M).bind fun x M1 => (fv ρ M1).bind fun y M2 => (dPairs r ρ M2).bind fun ps M3 => .ok ((x, y) :: ps) M3
def mkKV : List (D × D) → Option (List (Key × D))
  | [] => some []
  | (x, y) :: r => match keyOf x, mkKV r with
    | some k, some l => some ((k, y) :: l)
    | _, _ => none
def mgD (acc : List Key × List D) : List (Key × D) → List Key × List D
  | [] => acc
  | (k, d) :: r => mgD (putKs acc.1 k, putVs acc.1 acc.2 k d) r
/-- the pairs with their readings -/
inductive PrD (G : Cfg) (X : Cx) : List (Option Expr) → List Expr → List (FE D × FE D) → Prop
  | nil : PrD G X [] [] []
  | cons {k v : Expr} {ks : List (Option Expr)} {vs : List Expr} {fk fv : FE D} {fr : List (FE D × FE D)} (hk : DE G X k fk) (hv : DE G X v fv) (r : PrD G X ks vs fr) : PrD G X (some k :: ks) (v :: vs) ((fk, fv) :: fr)
theorem prd_pps {ks : List (Option Expr)} {vs : List Expr} {fr : List (FE D × FE D)} {W : WX} (h : PrD G X ks vs fr) (ok : Okc G X) (tk : Takes X W) : PPs X pos ks vs (fr.map fun q => (rdE G W q.1, rdE G W q.2)) := by
  induction h with
  | nil => exact pps_nil
  | cons hk hv r ih => exact pps_cons (hk ok W tk) (hv ok W tk) ih
inductive RepP (G : Cfg) (H : Hp) (θ : Th) : List (V × V) → List (D × D) → Prop
  | nil : RepP G H θ [] []
  | cons {x y : V} {a b : D} {l : List (V × V)} {m : List (D × D)} (h1 : Rep G H θ x a) (h2 : Rep G H θ y b) (r : RepP G H θ l m) : RepP G H θ ((x, y) :: l) ((a, b) :: m)
theorem pairs_rd {W : WX} : ∀ {fr : List (FE D × FE D)} {σ : L2.St} {H : Hp} {ρ : Env} {θ : Th} {M : Sto} {Q : List (V × V) → Hp → Prop}, StR G σ H ρ θ M →
    postR G W σ H θ (fun H' θ' _ ds => ∀ vs, RepP G H' θ' vs ds → Q vs H') (dPairs fr ρ M) → tPairs (fr.map fun q => (rdE G W q.1, rdE G W q.2)) σ H Q
  | [], σ, H, ρ, θ, M, Q, S, q => q H θ (Ext.refl _ _) S.2 [] .nil
  | (fk, fv) :: fr, σ, H, ρ, θ, M, Q, S, q => by
    show rdE G W fk σ H fun x H1 => rdE G W fv σ H1 fun y H2 => tPairs (fr.map fun q => (rdE G W q.1, rdE G W q.2)) σ H2 fun ps H3 => Q ((x, y) :: ps) H3
    refine rdE_seq (g := fun x ρ M1 => (fv ρ M1).bind fun y M2 => (dPairs fr ρ M2).bind fun ps M3 => .ok ((x, y) :: ps) M3) S q fun x v H1 θ1 N1 S1 E1 r1 q1 => ?_
    refine rdE_seq (g := fun y ρ M2 => (dPairs fr ρ M2).bind fun ps M3 => .ok ((x, y) :: ps) M3) S1 q1 fun y u H2 θ2 N2 S2 E2 r2 q2 => ?_
    refine pairs_rd S2 (q2.seq fun ds N3 H3 θ3 E3 S3 q3 vs r3 => q3 H3 θ3 (Ext.refl _ _) S3 _ (.cons ((r1.ext E2).ext E3) (r2.ext E3) r3))
theorem mkKV_ok {H : Hp} {θ : Th} : ∀ {ps : List (V × V)} {ds : List (D × D)} {l : List (Key × D)}, RepP G H θ ps ds → mkKV ds = some l → ∃ kvs : List (Key × V), ps = kvs.map (fun kv => (kV kv.1, kv.2)) ∧ kvs.length = l.length ∧ kvs.map (·.1) = l.map (·.1) ∧ Reps G H θ (kvs.map (·.2)) (l.map (·.2))
  | _, _, _, .nil, h => by cases h; exact ⟨[], rfl, rfl, rfl, .nil⟩
  | _, _, l, .cons (a := a) (b := b) (m := m) h1 h2 r, h => by
    have h : (match keyOf a, mkKV m with | some k, some l => some ((k, b) :: l) | _, _ => none) = some l := h
    split at h
    · rename_i k l' hk hl
      cases h
      obtain ⟨kvs, e1, e2, e3, e4⟩ := mkKV_ok r hl
      have ek := rep_key h1 hk
      subst ek
      exact ⟨(k, _) :: kvs, by rw [e1]; rfl, by simp [e2], by simp [e3], .cons h2 e4⟩
    · cases h
theorem mgD_ok {H : Hp} {θ : Th} : ∀ {more : List (Key × V)} {l : List (Key × D)} {kvs : List (Key × V)} {acc : List Key × List D}, more.map (·.1) = l.map (·.1) → Reps G H θ (more.map (·.2)) (l.map (·.2)) → kvs.map (·.1) = acc.1 → Reps G H θ (kvs.map (·.2)) acc.2 →
    (mergeK kvs more).map (·.1) = (mgD acc l).1 ∧ Reps G H θ ((mergeK kvs more).map (·.2)) (mgD acc l).2
  | [], [], kvs, acc, _, _, h1, h2 => ⟨h1, h2⟩
  | [], _ :: _, _, _, h, _, _, _ => by simp at h
  | _ :: _, [], _, _, h, _, _, _ => by simp at h
  | (k, v) :: more, (k', d) :: l, kvs, acc, hk, r, h1, h2 => by
    simp only [List.map_cons, List.cons.injEq] at hk
    obtain ⟨rfl, hk⟩ := hk
    cases r with
    | cons r rs =>
      have pk := putK_ok (k := k) h1 h2 r
      exact mgD_ok (kvs := putK kvs k v) (acc := (putKs acc.1 k, putVs acc.1 acc.2 k d)) hk rs pk.1 pk.2
/-- a display: a value that does not change (own = false), or one that does -/
def dDisp (own : Bool) (fr : List (FE D × FE D)) : FE D := fun ρ M => (dPairs fr ρ M).bind fun ps N => match mkKV ps with
  | some l => if l.length ≤ 15 then (if own = true then .ok (.own N.length) (N ++ [.dic (mgD ([], []) l).1 (mgD ([], []) l).2]) else .ok (.dic (mgD ([], []) l).1 (mgD ([], []) l).2) N) else .bad
  | none => .bad
def kDisp (own : Bool) (ps : List (D × D)) (N : Sto) : Res D := match mkKV ps with
  | some l => if l.length ≤ 15 then (if own = true then .ok (.own N.length) (N ++ [.dic (mgD ([], []) l).1 (mgD ([], []) l).2]) else .ok (.dic (mgD ([], []) l).1 (mgD ([], []) l).2) N) else .bad
  | none => .bad
theorem plain_dK (kvs : List (Key × V)) : Plain (.dK kvs) := ⟨(fun _ z => by cases z), (fun _ _ z => by unfold LamX.CodeO at z; cases z)⟩
theorem plain_lst (xs : List V) : Plain (.lst xs) := ⟨(fun _ z => by cases z), (fun _ _ z => by unfold LamX.CodeO at z; cases z)⟩
theorem de_disp (own : Bool) {keys : List (Option Expr)} {values : List Expr} {fr : List (FE D × FE D)} (h : PrD G X keys values fr) (hall : keys.all (·.isSome) = true := by rfl) (hl : keys.length = values.length := by rfl) (h0 : keys ≠ [] := by decide) (h15 : keys.length ≤ 15 := by decide) :
    DE G X (.Dict keys values pos) (dDisp own fr) := fun ok W tk => by
  refine (pe_disp (prd_pps h ok tk) hall hl h0 h15).imp fun σ H Q h => ?_
  obtain ⟨ρ, θ, M, S, q⟩ := h
  intro p hp
  have q : postR G W σ H θ (fun H' θ' _ d => ∀ v, Rep G H' θ' v d → Q v H') ((dPairs fr ρ M).bind (kDisp own)) := q
  have SH : StR G σ (upd H p (.dK [])) ρ (θ.hid p) M := ⟨S.1.ext (Ext.allocHid hp _), S.2.allocHid hp _ (plain_dK []).1⟩
  refine pairs_rd SH ?_
  cases e1 : dPairs fr ρ M with
  | ok ds N =>
    rw [e1] at q
    intro H2 θ2 E2 S2 vs r2
    obtain ⟨k1, k2, k3⟩ := hid_keep S.2 hp E2 (plain_dK []).1
    refine ⟨k1, ?_⟩
    have q : postR G W σ H θ (fun H' θ' _ d => ∀ v, Rep G H' θ' v d → Q v H') (kDisp own ds N) := q
    unfold kDisp at q
    split at q
    · rename_i l hl
      split at q
      · rename_i h15
        obtain ⟨kvs, e2, e3, e4, e5⟩ := mkKV_ok r2 hl
        refine ⟨kvs, e2, by rw [e3]; exact h15, ?_⟩
        obtain ⟨m1, m2⟩ := mgD_ok (kvs := []) (acc := ([], [])) e4 e5 rfl .nil
        cases own with
        | true =>
          rw [if_pos rfl] at q
          exact q _ (θ2.adopt p k2) (ad_ext S.2 hp E2 k2) (ad_sto S2 k2 k3 k1 (plain_dK []) ⟨_, upd_same, m1, ad_reps k2 m2⟩) _ (.own (ad_own S2 k2))
        | false =>
          rw [if_neg Bool.false_ne_true] at q
          exact q _ (θ2.unh p) (hid_ext S.2 hp E2 (plain_dK []).1) (hid_sto S2 k2 k3 k1 (plain_dK []) (plain_dK _).1) _ (.dic upd_same (Th.unh_out θ2 k3) m1 (hid_reps k2 m2))
      · exact q.elim
    · exact q.elim
  | exc c fs vs N =>
    rw [e1] at q
    exact fun cls dd H' θ' E S' x => q cls dd H' θ' ((Ext.allocHid hp _).trans E) S' x
  | bad => rw [e1] at q; exact q
/-- {} -/
def dNew (own : Bool) : FE D := fun _ N => if own = true then .ok (.own N.length) (N ++ [.dic [] []]) else .ok (.dic [] []) N
theorem de_dnew (own : Bool) : DE G X (.Dict [] [] pos) (dNew own) := fun ok W tk => pe_dnewK.imp fun σ H Q h => by
  obtain ⟨ρ, θ, M, S, q⟩ := h
  intro p hp
  cases own with
  | true => exact q _ (θ.own p) (Ext.allocOwn hp _) (S.2.push hp ⟨[], upd_same, rfl, .nil⟩) _ (.own S.2.last)
  | false => exact q _ θ (Ext.alloc hp _) (S.2.alloc hp _) _ (.dic (kvs := []) upd_same (S.2.out hp) rfl .nil)
/-! ### methods of changing lists -/
def rMt (G : Cfg) (g : Sto → D → List D → Option (D × Sto)) : V → List V → Hp → VK → Prop := fun x vs H Q => ∃ θ M dx ds d M', StoR G H θ M ∧ Rep G H θ x dx ∧ Reps G H θ vs ds ∧ g M dx ds = some (d, M') ∧ ∀ v H', Ext H θ H' θ → StoR G H' θ M' → Rep G H' θ v d → Q v H'
def dMt (g : Sto → D → List D → Option (D × Sto)) (fo : FE D) (fs : FE (List D)) : FE D := fun ρ M => (fo ρ M).bind fun x M1 => match lstOf M1 x with
  | some _ => (fs ρ M1).bind fun ds M2 => match g M2 x ds with
    | some (d, M3) => .ok d M3
    | none => .bad
  | none => .bad
def kMt (g : Sto → D → List D → Option (D × Sto)) (x : D) (ds : List D) (N : Sto) : Res D := match g N x ds with
  | some (d, M3) => .ok d M3
  | none => .bad
theorem mt_rd {W : WX} {g : Sto → D → List D → Option (D × Sto)} (ok : Okc G X) {σ : L2.St} {H : Hp} {Q : VK} (h : rdE G W (dMt g fa fs) σ H Q) : tBM X.K "list" (rMt G g) (rdE G W fa) (rdA G W fs) σ H Q := by
  obtain ⟨ρ, θ, M, S, q⟩ := h
  refine rdE_seq (g := fun x ρ N => match lstOf N x with | some _ => (fs ρ N).bind fun ds M2 => kMt g x ds M2 | none => .bad) S q fun x v H1 θ1 N1 S1 E1 r1 q1 => ?_
  cases el : lstOf N1 x with
  | none => simp only [el] at q1; exact q1.elim
  | some ys =>
    simp only [el] at q1
    obtain ⟨a, xs, e1, e2, _⟩ := rep_lst S1.2 r1 el
    rw [ok.hk] at e2
    subst e1
    refine ⟨.inl ⟨rfl, xs, e2⟩, ?_⟩
    refine rdA_seq (g := fun ds _ M2 => kMt g x ds M2) S1 q1 fun ds vs H2 θ2 N2 S2 E2 r2 q2 => ?_
    unfold kMt at q2
    split at q2
    · rename_i d M3 eg
      exact ⟨θ2, N2, x, ds, d, M3, S2.2, r1.ext E2, r2, eg, fun v H' E S' r => q2 H' θ2 E S' v r⟩
    · exact q2.elim
theorem de_mt {g : Sto → D → List D → Option (D × Sto)} {name : Str} {id : String} {apos : Pos} (slot : Slot "list" name id) (hty : typeOf (.builtin id) = pure (.type "method_descriptor")) (hm : Okc G X → MtR X id (rMt G g)) (ho : DE G X a fa) (ha : DA G X (e :: es) fs)
    (hbase : attributeBase a name X.env (eval a X.env) = eval a X.env := by rfl)
    (hfew : ((backTo pos (starEach (e :: es) X.env)).all (fun x => !x.1) && (backToKw pos (keywordEach [] X.env)).all (fun x => x.1.isSome) && decide ((e :: es).length + ([] : List Keyword).length + (if ([] : List Keyword).isEmpty then 0 else 1) < 30)) = true := by rfl)
    (hline : (apos.endLine == pos.line) = true := by rfl) (hs : starEach (e :: es) X.env = (false, eval e X.env) :: starEach es X.env := by rfl) (hplain : (backTo pos (starEach es X.env)).any (·.1) = false := by rfl) :
    DE G X (.Call (.Attribute a name apos) (e :: es) [] pos) (dMt g fa fs) := fun ok W tk =>
  (pe_bm F.plainAttrs_list slot hty (hm ok) (ho ok W tk) (ha ok W tk) hbase hfew hline hs hplain).imp fun σ H Q h => mt_rd ok h
def gApp (M : Sto) (x : D) (ds : List D) : Option (D × Sto) := match x, ds with
  | .own n, [d] => match M[n]? with
    | some (.lst xs) => if xs.length < sizeLine then some (.non, M.set n (.lst (xs ++ [d]))) else none
    | _ => none
  | _, _ => none
theorem md_app (ok : Okc G X) : MtR X "list.append" (rMt G gApp) := by
  intro pins s σ H x vs v us Q I rx rv h
  obtain ⟨θ, M, dx, ds, d, M', S, r1, rs, hg, q⟩ := h
  unfold gApp at hg
  split at hg
  · rename_i n d'
    split at hg
    · rename_i xs hm
      split at hg
      · rename_i hz
        cases hg
        cases r1 with
        | @own p _ hn =>
          cases rs with
          | cons r2 rs =>
            cases rs
            obtain ⟨ys, e1, e2⟩ := S.own hn hm
            rename_i y
            have E := Ext.write (H := H) (List.mem_of_getElem? hn) (.lst (ys ++ [y]))
            exact mt_append pins s σ H _ _ v us Q I rx rv ⟨p, ys, _, rfl, rfl, e1, by rw [e2.length]; exact hz, q _ _ E (S.set hn ⟨_, upd_same, (e2.ext E).append (.cons (r2.ext E) .nil)⟩) .non⟩
      · cases hg
    · cases hg
  · cases hg
def gPopAt (M : Sto) (x : D) (ds : List D) : Option (D × Sto) := match x, ds with
  | .own n, [.int i] => match M[n]? with
    | some (.lst xs) => if -(2 ^ 63) ≤ i ∧ i < 2 ^ 63 then match seqIndex? i xs.length with
      | some k => match xs[k]? with
        | some d => some (d, M.set n (.lst (xs.eraseIdx k)))
        | none => none
      | none => none
      else none
    | _ => none
  | _, _ => none
theorem md_popAt (ok : Okc G X) : MtR X "list.pop" (rMt G gPopAt) := by
  intro pins s σ H x vs v us Q I rx rv h
  obtain ⟨θ, M, dx, ds, d, M', S, r1, rs, hg, q⟩ := h
  unfold gPopAt at hg
  split at hg
  · rename_i n i
    split at hg
    · rename_i xs hm
      split at hg
      · rename_i hz
        split at hg
        · rename_i k hk
          split at hg
          · rename_i d' hd
            cases hg
            cases r1 with
            | @own p _ hn =>
              cases rs with
              | cons r2 rs =>
                cases rs
                cases rep_int r2
                obtain ⟨ys, e1, e2⟩ := S.own hn hm
                have E := Ext.write (H := H) (List.mem_of_getElem? hn) (.lst (ys.eraseIdx k))
                obtain ⟨y, h1, h2⟩ := e2.get hd
                exact mt_popAt pins s σ H _ _ v us Q I rx rv ⟨p, ys, i, k, y, rfl, rfl, e1, hz.1, hz.2, by rw [e2.length]; exact hk, h1, q _ _ E (S.set hn ⟨_, upd_same, (e2.ext E).eraseIdx k⟩) (h2.ext E)⟩
          · cases hg
        · cases hg
      · cases hg
    · cases hg
  · cases hg
end
end DL
set_option maxHeartbeats 4000000
namespace L2
open PySem PySem.Spec PyProof.Rows
theorem PTs.imp {X : Cx} {ifs : List Expr} {t t' : TT} (h : PTs X ifs t) (k : ∀ σ H Q, t' σ H Q → t σ H Q) : PTs X ifs t' := ⟨fun pins s σ H Q I q => h.run pins s σ H Q I (k σ H Q q)⟩
end L2
namespace DL
open PySem PySem.Spec PyProof.Rows L2
/-! ### a comprehension's names -/
def wipeE (ρ : Env) : List Nat → Env
  | [] => ρ
  | v :: vs => (wipeE ρ vs).set v none
theorem wipe_at (σ : L2.St) : ∀ (vs : List Nat) (j : Nat), (wipe σ vs)[j]? = if j ∈ vs then σ[j]?.map (fun _ => none) else σ[j]?
  | [], j => by simp [wipe]
  | v :: vs, j => by
    show ((wipe σ vs).set v none)[j]? = _
    rw [List.getElem?_set, wipe_length]
    by_cases e : v = j
    · subst e
      simp only [if_true, List.mem_cons, true_or]
      by_cases hl : v < σ.length
      · rw [if_pos hl, List.getElem?_eq_getElem hl]; rfl
      · rw [if_neg hl, List.getElem?_eq_none (by omega)]; rfl
    · rw [if_neg e, wipe_at σ vs j]
      have e2 : (j ∈ v :: vs) = (j ∈ vs) := by simp [Ne.symm e]
      simp only [e2]
theorem wipe_set {σ : L2.St} {vs : List Nat} {i : Nat} (x : Option V) (h : i ∈ vs) : wipe (σ.set i x) vs = wipe σ vs := by
  apply List.ext_getElem?
  intro j
  rw [wipe_at, wipe_at]
  by_cases hj : j ∈ vs
  · rw [if_pos hj, if_pos hj]
    rw [List.getElem?_set]
    split
    · rename_i e
      subst e
      split
      · rename_i hl
        rw [List.getElem?_eq_getElem hl]; rfl
      · rename_i hl
        rw [List.getElem?_eq_none (by omega)]
    · rfl
  · rw [if_neg hj, if_neg hj, List.getElem?_set_ne (fun e => hj (by rw [← e]; exact h))]
theorem wipe_wipe (σ : L2.St) (vs : List Nat) : wipe (wipe σ vs) vs = wipe σ vs := by
  apply List.ext_getElem?
  intro j
  rw [wipe_at, wipe_at]
  split
  · cases σ[j]? <;> rfl
  · rfl
/-- what the items are stored to -/
inductive TgC where
  | one (i : Nat)
  | tup (is : List Nat)
def gCs : List Nat → TGs
  | [] => gNil
  | i :: is => gCons (gName i) (gCs is)
def TgC.k (K : PySem.W.Frag) : TgC → TG
  | .one i => gName i
  | .tup is => gTup K is.length (gCs is)
def TgC.ix : TgC → List Nat
  | .one i => [i]
  | .tup is => is
def setAll : List Nat → List D → Env → Option Env
  | [], [], ρ => some ρ
  | i :: is, d :: ds, ρ => setAll is ds (ρ.set i (some d))
  | _, _, _ => none
def TgC.d : TgC → D → Env → Option Env
  | .one i, d, ρ => some (ρ.set i (some d))
  | .tup is, .tup ds, ρ => setAll is ds ρ
  | .tup _, _, _ => none
section
variable {G : Cfg} {H : Hp} {θ : Th}
theorem wipe_env {σ : L2.St} {ρ : Env} (R : EnvR G H θ σ ρ) : ∀ vs : List Nat, EnvR G H θ (wipe σ vs) (wipeE ρ vs)
  | [] => R
  | v :: vs => (wipe_env R vs).gone v
theorem setAll_len : ∀ {is : List Nat} {ds : List D} {ρ ρ' : Env}, setAll is ds ρ = some ρ' → ds.length = is.length
  | [], [], _, _, _ => rfl
  | i :: is, d :: ds, ρ, ρ', h => by
    have h : setAll is ds (ρ.set i (some d)) = some ρ' := h
    rw [List.length_cons, List.length_cons, setAll_len h]
  | [], _ :: _, _, _, h => by cases h
  | _ :: _, [], _, _, h => by cases h
theorem gCs_run {ws : List Nat} : ∀ {is : List Nat} {ds : List D} {xs : List V} {σ : L2.St} {ρ ρ' : Env} {Q : L2.St → Hp → Prop}, (∀ i ∈ is, i ∈ ws) → EnvR G H θ σ ρ → Reps G H θ xs ds → setAll is ds ρ = some ρ' → (∀ σ', EnvR G H θ σ' ρ' → wipe σ' ws = wipe σ ws → Q σ' H) → gCs is xs σ H Q
  | [], [], xs, σ, ρ, ρ', Q, _, R, r, h, q => by
    cases r
    cases h
    exact ⟨rfl, q σ R rfl⟩
  | i :: is, d :: ds, xs, σ, ρ, ρ', Q, hi, R, r, h, q => by
    cases r with
    | cons r rs =>
      refine ⟨_, _, rfl, ?_⟩
      exact gCs_run (fun j hj => hi j (List.mem_cons_of_mem _ hj)) (R.set i r) rs h fun σ' R' e => q σ' R' (by rw [e, wipe_set _ (hi i List.mem_cons_self)])
  | [], _ :: _, _, _, _, _, _, _, _, _, h, _ => by cases h
  | _ :: _, [], _, _, _, _, _, _, _, _, h, _ => by cases h
theorem tg_run {K : PySem.W.Frag} {ws : List Nat} {T : TgC} {v : V} {d : D} {σ : L2.St} {ρ ρ' : Env} {Q : L2.St → Hp → Prop} (hK : G.K = K) (hi : ∀ i ∈ T.ix, i ∈ ws) (R : EnvR G H θ σ ρ) (r : Rep G H θ v d) (h : T.d d ρ = some ρ')
    (q : ∀ σ', EnvR G H θ σ' ρ' → wipe σ' ws = wipe σ ws → Q σ' H) : T.k K v σ H Q := by
  cases T with
  | one i =>
    cases h
    exact q _ (R.set i r) (wipe_set _ (hi i List.mem_cons_self))
  | tup is =>
    cases d with
    | tup ds =>
      obtain ⟨a, xs, e, hq, rs⟩ := rep_tup r
      rw [hK] at hq
      exact ⟨a, xs, e, hq, by rw [rs.length, setAll_len h], gCs_run hi R rs h q⟩
    | _ => cases h
end
/-! ### [elt for target in iter if test] -/
abbrev WF : WX := fun _ _ _ _ => False
def lstp (T : TgC) (ft : FE Bool) (fe : FE D) (ws : List Nat) (ρ : Env) (d : D) (M : Sto) (k : Sto → Res (List D)) : Res (List D) := match T.d d (wipeE ρ ws) with
  | none => .bad
  | some ρ2 => match ft ρ2 M with
    | .ok true M2 => match fe ρ2 M2 with
      | .ok y M3 => match k M3 with
        | .ok ys M4 => .ok (y :: ys) M4
        | _ => .bad
      | _ => .bad
    | .ok false M2 => k M2
    | _ => .bad
def lcD (T : TgC) (ft : FE Bool) (fe : FE D) (ws : List Nat) (ρ : Env) : List D → Sto → Res (List D)
  | [], M => .ok [] M
  | d :: ds, M => lstp T ft fe ws ρ d M (lcD T ft fe ws ρ ds)
def lcO (T : TgC) (ft : FE Bool) (fe : FE D) (ws : List Nat) (ρ : Env) (l : Nat) : Nat → Nat → Sto → Res (List D)
  | 0, _, _ => .bad
  | n + 1, i, M => match lstOf M (.own l) with
    | some ds => match ds[i]? with
      | some d => lstp T ft fe ws ρ d M (lcO T ft fe ws ρ l n (i + 1))
      | none => .ok [] M
    | none => .bad
def lcI (T : TgC) (ft : FE Bool) (fe : FE D) (ws : List Nat) (ρ : Env) : IT → Sto → Res (List D)
  | .fix ds, M => lcD T ft fe ws ρ ds M
  | .own l, M => match lstOf M (.own l) with
    | some ds => lcO T ft fe ws ρ l (ds.length + 1) 0 M
    | none => .bad
def kLc (own : Bool) (r : Res (List D)) : Res D := match r with
  | .ok ys M => if ys.length ≤ sizeLine then (if own = true then .ok (.own M.length) (M ++ [.lst ys]) else .ok (.lst ys) M) else .bad
  | _ => .bad
def fLc (own : Bool) (fi : FE IT) (T : TgC) (ft : FE Bool) (fe : FE D) (ws : List Nat) : FE D := fun ρ M => (fi ρ M).bind fun p M1 => kLc own (lcI T ft fe ws ρ p M1)
section
variable {G : Cfg} {X : Cx}
theorem lc_turns {K : PySem.W.Frag} {T : TgC} {ft : FE Bool} {fe : FE D} {ws : List Nat} {ρ : Env} {σ : L2.St} {H : Hp} {θ : Th} {M Mf : Sto} {at_ : Sto → Option (List D)} {J : It} {p : Addr} {tot : List D} {Q : Hp → Prop} (loop : Nat → Nat → Sto → Res (List D)) (m : Nat) (hK : G.K = K)
    (JD : ItD G H θ at_ J) (S : StR G σ H ρ θ M) (hp : H p = none) (hw : ∀ i ∈ T.ix, i ∈ ws)
    (hl : ∀ m i M, loop m i M = .bad ∨ ∃ ds, at_ M = some ds ∧ ((ds.length ≤ i ∧ loop m i M = .ok [] M) ∨ ∃ d m', ds[i]? = some d ∧ m' < m ∧ loop m i M = lstp T ft fe ws ρ d M (loop m' (i + 1))))
    (h0 : loop m 0 M = .ok tot Mf) (hz : tot.length ≤ sizeLine)
    (hd : ∀ H' θ' acc, Ext (upd H p (.lst [])) (θ.hid p) H' θ' ∨ (Ext H θ H' θ' ∧ True) → Ext H θ H' θ' → p ∈ θ'.av → p ∉ θ'.lb → H' p = some (.lst acc) → Reps G H' θ' acc tot → StoR G H' θ' Mf → Q H') :
    ∃ Wv : Nat → Nat → Hp → Prop, (∃ m, Wv 0 m (upd H p (.lst []))) ∧ ∀ i m H, Wv i m H → (J.stop i H ∧ Q H) ∨ (J.go i H ∧ ∃ Nx : Hp → Prop, (∀ H', Nx H' → ∃ m', m' < m ∧ Wv (i + 1) m' H') ∧ ∀ x H', J.yld i H x H' →
      T.k K x (wipe σ ws) H' fun σ2 H2 => wipe σ2 ws = wipe σ ws ∧ rdT G WF ft σ2 H2 fun b H3 => if b = true then rdE G WF fe σ2 H3 fun y H4 => ∃ acc, H4 p = some (.lst acc) ∧ acc.length < sizeLine ∧ Nx (upd H4 p (.lst (acc ++ [y]))) else Nx H3) := by
  refine ⟨fun i m H1 => ∃ θ1 M1 acc ds ys, Ext H θ H1 θ1 ∧ StoR G H1 θ1 M1 ∧ p ∈ θ1.av ∧ p ∉ θ1.lb ∧ H1 p = some (.lst acc) ∧ Reps G H1 θ1 acc ds ∧ loop m i M1 = .ok ys Mf ∧ tot = ds ++ ys,
    ⟨m, θ.hid p, M, [], [], tot, Ext.allocHid hp _, S.2.allocHid hp _ (plain_lst []).1, List.mem_cons_self, fun z => S.2.out hp (θ.sub p z), upd_same, .nil, h0, rfl⟩, fun i m H1 hw1 => ?_⟩
  obtain ⟨θ1, M1, acc, ds, ys, E1, S1, a1, a2, a3, rs, hlp, ht⟩ := hw1
  rcases hl m i M1 with hb | ⟨its, hat, ⟨hs1, hs2⟩ | ⟨d, m', hi, hm, hs⟩⟩
  · rw [hb] at hlp; cases hlp
  · rw [hs2] at hlp
    cases hlp
    rw [List.append_nil] at ht
    subst ht
    exact .inl ⟨JD.stop H1 θ1 _ its i E1 S1 hat hs1, hd H1 θ1 acc (.inr ⟨E1, trivial⟩) E1 a1 a2 a3 rs S1⟩
  · obtain ⟨hgo, hy⟩ := JD.go H1 θ1 M1 its i d E1 S1 hat hi
    rw [hs] at hlp
    refine .inr ⟨hgo, fun H2 => ∃ θ1 M1 acc ds ys, Ext H θ H2 θ1 ∧ StoR G H2 θ1 M1 ∧ p ∈ θ1.av ∧ p ∉ θ1.lb ∧ H2 p = some (.lst acc) ∧ Reps G H2 θ1 acc ds ∧ loop m' (i + 1) M1 = .ok ys Mf ∧ tot = ds ++ ys, fun H' hn => ⟨m', hm, hn⟩, fun x H' y => ?_⟩
    obtain ⟨θ2, E2, S2, r⟩ := hy x H' y
    unfold lstp at hlp
    split at hlp
    · cases hlp
    · rename_i ρ2 hT
      have R2 : EnvR G H' θ2 (wipe σ ws) (wipeE ρ ws) := wipe_env ((S.1.ext E1).ext E2) ws
      refine tg_run hK hw R2 r hT fun σ2 R3 ew => ⟨by rw [ew, wipe_wipe], ρ2, θ2, M1, ⟨R3, S2⟩, ?_⟩
      have keepP : ∀ {Ha Hb : Hp} {θa θb : Th} {ac : List V}, Ext Ha θa Hb θb → p ∈ θa.av → p ∉ θa.lb → Ha p = some (.lst ac) → p ∈ θb.av ∧ p ∉ θb.lb ∧ Hb p = some (.lst ac) := fun E h1 h2 h3 =>
        ⟨E.sub p h1, E.outl h3 h2 (fun _ z => by cases z), E.keep p _ h3 h2 (fun _ z => by cases z)⟩
      obtain ⟨b1, b2, b3⟩ := keepP E2 a1 a2 a3
      split at hlp
      · rename_i M2 eT
        rw [eT]
        intro H3 θ3 E3 S3
        refine iteT ⟨ρ2, θ3, M2, ⟨R3.ext E3, S3⟩, ?_⟩
        obtain ⟨c1, c2, c3⟩ := keepP E3 b1 b2 b3
        split at hlp
        · rename_i y' M3 eE
          rw [eE]
          intro H4 θ4 E4 S4 v r4
          obtain ⟨d1, d2, d3⟩ := keepP E4 c1 c2 c3
          split at hlp
          · rename_i ys' M4 ek
            cases hlp
            have rs4 := (((rs.ext E2).ext E3).ext E4)
            have hlen : acc.length < sizeLine := by
              rw [rs.length]
              rw [ht, List.length_append, List.length_cons] at hz
              omega
            have E5 : Ext H θ H4 θ4 := ((E1.trans E2).trans E3).trans E4
            refine ⟨acc, d3, hlen, θ4, M3, acc ++ [v], ds ++ [y'], ys', ⟨E5.pre, E5.sub, fun b o hb n t => ?_, E5.new, E5.newl⟩, S4.touch d1 d2 d3 (plain_lst acc) (plain_lst _).1, d1, d2, upd_same, (rs4.append (.cons r4 .nil)).touch d1, ek, by rw [ht, List.append_assoc]; rfl⟩
            rw [upd_ne (ne_of_none hb hp)]
            exact E5.keep b o hb n t
          · cases hlp
        · cases hlp
      · rename_i M2 eT
        rw [eT]
        intro H3 θ3 E3 S3
        obtain ⟨c1, c2, c3⟩ := keepP E3 b1 b2 b3
        exact iteF ⟨θ3, M2, acc, ds, ys, (E1.trans E2).trans E3, S3, c1, c2, c3, (rs.ext E2).ext E3, hlp, ht⟩
      · cases hlp
theorem lc_rd {W : WX} {own : Bool} {T : TgC} {ft : FE Bool} {fe : FE D} {ws : List Nat} {fi : FE IT} {σ : L2.St} {H : Hp} {Q : VK} (hK : G.K = X.K) (hw : ∀ i ∈ T.ix, i ∈ ws) (h : rdE G W (fLc own fi T ft fe ws) σ H Q) :
    tLc (fun σ H R => ∃ ρ θ M, StR G σ H ρ θ M ∧ postR G W σ H θ (fun H' θ' _ p => ∀ J, ItD G H' θ' p.at_ J → R J H') (fi ρ M)) (T.k X.K) (rdT G WF ft) (rdE G WF fe) ws σ H Q := by
  obtain ⟨ρ, θ, M, S, q⟩ := h
  have q : postR G W σ H θ (fun H' θ' _ d => ∀ v, Rep G H' θ' v d → Q v H') ((fi ρ M).bind fun p M1 => kLc own (lcI T ft fe ws ρ p M1)) := q
  refine ⟨ρ, θ, M, S, q.seq fun it N H1 θ1 E1 S1 q1 J JD p hp => ?_⟩
  unfold kLc at q1
  split at q1
  · rename_i tot Mf et
    split at q1
    · rename_i hz
      have fin : ∀ H' θ' acc, Ext (upd H1 p (.lst [])) (θ1.hid p) H' θ' ∨ (Ext H1 θ1 H' θ' ∧ True) → Ext H1 θ1 H' θ' → p ∈ θ'.av → p ∉ θ'.lb → H' p = some (.lst acc) → Reps G H' θ' acc tot → StoR G H' θ' Mf → Q (.ref p) H' := fun H' θ' acc _ E a1 a2 a3 rs SF => by
        have hu : upd H' p (.lst acc) = H' := by
          funext b
          by_cases e : b = p
          · rw [e, upd_same, a3]
          · rw [upd_ne e]
        cases own with
        | true =>
          rw [if_pos rfl] at q1
          have S' := ad_sto (o' := .lst acc) (m := .lst tot) SF a1 a2 a3 (plain_lst acc) ⟨acc, upd_same, ad_reps a1 rs⟩
          rw [hu] at S'
          refine q1 H' (θ'.adopt p a1) ⟨E.pre.trans ⟨[p], rfl⟩, E.sub, E.keep, E.new, fun b hb n u e => ?_⟩ S' _ (.own (ad_own SF a1))
          rcases List.mem_append.mp hb with hb | hb
          · exact E.newl b hb n u e
          · rw [List.mem_singleton.mp hb, hp] at e
            cases e
        | false =>
          rw [if_neg Bool.false_ne_true] at q1
          have S' := hid_sto (o' := .lst acc) SF a1 a2 a3 (plain_lst acc) (plain_lst acc).1
          have R' := hid_reps (o' := .lst acc) a1 rs
          rw [hu] at S' R'
          exact q1 H' (θ'.unh p) ⟨E.pre, fun a ha => List.mem_filter.mpr ⟨E.sub a ha, by
            have z : a ≠ p := fun z => S1.out hp (by rw [← z]; exact ha)
            simp [z]⟩, E.keep, fun b hb n => E.new b (Th.unh_sub θ' p b hb) n, E.newl⟩ S' _ (.lst a3 (Th.unh_out θ' a2) R')
      cases it with
      | fix ds =>
        refine lc_turns (fun m i M => if m + i = ds.length then lcD T ft fe ws ρ (ds.drop i) M else .bad) ds.length hK JD ⟨S.1.ext E1, S1⟩ hp hw (fun m i M2 => ?_) ?_ hz fin
        · by_cases hm : m + i = ds.length
          · refine .inr ⟨ds, rfl, ?_⟩
            show (_ ∧ (if m + i = ds.length then lcD T ft fe ws ρ (ds.drop i) M2 else .bad) = _) ∨ ∃ d m', _ ∧ _ ∧ (if m + i = ds.length then lcD T ft fe ws ρ (ds.drop i) M2 else .bad) = _
            rw [if_pos hm]
            by_cases hlt : i < ds.length
            · obtain ⟨m', rfl⟩ : ∃ m', m = m' + 1 := ⟨m - 1, by omega⟩
              refine .inr ⟨ds[i], m', List.getElem?_eq_getElem hlt, Nat.lt_succ_self _, ?_⟩
              rw [List.drop_eq_getElem_cons hlt]
              show lstp T ft fe ws ρ ds[i] M2 (lcD T ft fe ws ρ (ds.drop (i + 1))) = _
              congr 1
              funext M3
              show _ = if m' + (i + 1) = ds.length then _ else _
              rw [if_pos (by omega)]
            · refine .inl ⟨by omega, ?_⟩
              rw [List.drop_eq_nil_of_le (by omega)]
              rfl
          · left
            exact if_neg hm
        · show (if ds.length + 0 = ds.length then lcD T ft fe ws ρ (ds.drop 0) N else .bad) = _
          rw [if_pos (Nat.add_zero _), List.drop_zero]
          exact et
      | own l =>
        have et : (match lstOf N (.own l) with | some ds => lcO T ft fe ws ρ l (ds.length + 1) 0 N | none => .bad) = .ok tot Mf := et
        cases hat0 : lstOf N (.own l) with
        | none => rw [hat0] at et; cases et
        | some ds0 =>
          rw [hat0] at et
          refine lc_turns (fun m i => lcO T ft fe ws ρ l m i) (ds0.length + 1) hK JD ⟨S.1.ext E1, S1⟩ hp hw (fun m i M2 => ?_) et hz fin
          cases m with
          | zero => exact .inl rfl
          | succ m =>
            cases hat : lstOf M2 (.own l) with
            | none => exact .inl (by show lcO T ft fe ws ρ l (m + 1) i M2 = .bad; rw [lcO, hat])
            | some ds =>
              refine .inr ⟨ds, hat, ?_⟩
              cases hi : ds[i]? with
              | none => exact .inl ⟨by simpa using hi, by show lcO T ft fe ws ρ l (m + 1) i M2 = _; rw [lcO, hat]; simp [hi]⟩
              | some d => exact .inr ⟨d, m, rfl, Nat.lt_succ_self _, by show lcO T ft fe ws ρ l (m + 1) i M2 = _; rw [lcO, hat]; simp [hi]⟩
    · exact q1.elim
  · exact q1.elim
abbrev BlkCx (X : Cx) (scope : Scope) (s : Shared) (H : Hp) (C : Addr) (cl : List (Str × Addr)) (fp : List Addr) : Cx := X.blk s H scope (compEnvC scope cl C X.env) fp
/-- a clause's tests -/
def DTs (G : Cfg) (X : Cx) (ifs : List Expr) (f : FE Bool) : Prop := Okc G X → PTs X ifs (rdT G WF f)
def dYes : FE Bool := fun _ M => .ok true M
theorem dts_nil : DTs G X [] dYes := fun ok => PTs.imp pts_nil fun σ H Q h => by
  obtain ⟨ρ, θ, M, S, q⟩ := h
  exact q H θ (Ext.refl _ _) S.2
theorem dts_one {c : Expr} {f : FE Bool} (h : DT G X c f) : DTs G X [c] f := fun ok => pts_one (h ok WF takes0)
theorem blk_ok {scope : Scope} {s : Shared} {H : Hp} {C : Addr} {cl : List (Str × Addr)} {fp : List Addr} (ok : Okc G X) : Okc G (BlkCx X scope s H C cl fp) := ⟨ok.hk, ok.calm, ok.hu⟩
variable {elt tg iter : Expr} {ifs : List Expr} {scope : Scope} {pos : Pos} {T : TgC} {ft : FE Bool} {fe : FE D} {fi : FE IT} {ix : List (Str × Nat)}
theorem de_lc (own : Bool) (hN : X.N.Nodup) (okB : BlkOk X.N X.env.scope scope ix) (hi : DI G X tg iter fi) (hw : ∀ i ∈ T.ix, i ∈ ix.map (·.2))
    (hg : ∀ (s : Shared) (H : Hp) (C : Addr) (cl : List (Str × Addr)) (fp : List Addr), X.calm = true → PG (BlkCx X scope s H C cl fp) tg (T.k X.K)) (ht : ∀ (s : Shared) (H : Hp) (C : Addr) (cl : List (Str × Addr)) (fp : List Addr), DTs G (BlkCx X scope s H C cl fp) ifs ft)
    (he : ∀ (s : Shared) (H : Hp) (C : Addr) (cl : List (Str × Addr)) (fp : List Addr), DE G (BlkCx X scope s H C cl fp) elt fe) (hs : ∀ x, foldedSetIterable iter X.env x = pure x := by intro _; rfl) :
    DE G X (.ListComp elt [⟨tg, iter, ifs, 0⟩] scope pos) (fLc own fi T ft fe (ix.map (·.2))) := fun ok W tk =>
  (pe_lc ok.calm hN (hi ok W tk) okB (fun s H C cl fp => hg s H C cl fp ok.calm) (fun s H C cl fp => ht s H C cl fp (blk_ok ok)) (fun s H C cl fp => he s H C cl fp (blk_ok ok) WF takes0) hs).imp fun σ H Q h => lc_rd ok.hk hw h
theorem ds_setLc (own : Bool) (i : Nat) {y : Str} {py spos : Pos} (hN : X.N.Nodup) (okB : BlkOk X.N X.env.scope scope ix) (hi : DI G X tg iter fi) (hw : ∀ i ∈ T.ix, i ∈ ix.map (·.2))
    (hg : ∀ (s : Shared) (H : Hp) (C : Addr) (cl : List (Str × Addr)) (fp : List Addr), X.calm = true → PG (BlkCx X scope s H C cl fp) tg (T.k X.K)) (ht : ∀ (s : Shared) (H : Hp) (C : Addr) (cl : List (Str × Addr)) (fp : List Addr), DTs G (BlkCx X scope s H C cl fp) ifs ft)
    (he : ∀ (s : Shared) (H : Hp) (C : Addr) (cl : List (Str × Addr)) (fp : List Addr), DE G (BlkCx X scope s H C cl fp) elt fe) (hy : X.N[i]? = some y := by rfl) (hyl : X.env.scope.names.lookup y = some .local := by rfl)
    (hsw : swapsWith (.ListComp elt [⟨tg, iter, ifs, 0⟩] scope pos) (some (.Name y py)) spos.line X.env = pure true := by exact sw_true rfl rfl rfl rfl) (hs : ∀ x, foldedSetIterable iter X.env x = pure x := by intro _; rfl) :
    DS G X (.Assign [.Name y py] (.ListComp elt [⟨tg, iter, ifs, 0⟩] scope pos) spos) (sSet i (fLc own fi T ft fe (ix.map (·.2)))) := fun ok po W tk => by
  refine (ps_setLc ok.calm hN hy hyl hsw (hi ok W tk) okB (fun s H C cl fp => hg s H C cl fp ok.calm) (fun s H C cl fp => ht s H C cl fp (blk_ok ok)) (fun s H C cl fp => he s H C cl fp (blk_ok ok) WF takes0) hs).imp fun D0 σ H h => ?_
  obtain ⟨ρ, θ, M, S, q⟩ := h
  refine lc_rd (own := own) ok.hk hw ⟨ρ, θ, M, S, ?_⟩
  exact postS.seq (g := fun d M1 => .nx (ρ.set i (some d)) M1) S.1 q fun d M1 H1 θ1 E S1 q1 v r => q1 _ H1 θ1 (Ext.refl _ _) ⟨(S.1.ext E).set i r, S1⟩
end
end DL
set_option maxHeartbeats 4000000
namespace DL
open PySem PySem.Spec PyProof.Rows L2
/-! ### isinstance -/
inductive Kd where
  | non | bl | int | str | tup | lst | dic | obj (c : Nat) | exc (c : Nat)
  deriving DecidableEq
def kdOf (M : Sto) : D → Option Kd
  | .non => some .non
  | .bl _ => some .bl
  | .int _ => some .int
  | .str _ => some .str
  | .tup _ => some .tup
  | .lst _ => some .lst
  | .flst _ => some .lst
  | .dic _ _ => some .dic
  | .obj c _ _ => some (.obj c)
  | .exc c [] [] => some (.exc c)
  | .own n => match M[n]? with
    | some (.lst _) => some .lst
    | some (.dic _ _) => some .dic
    | some (.dit _ _) => some .dic
    | some (.ins c _ _) => some (.obj c)
    | none => none
  | _ => none
def kdTy (G : Cfg) : Kd → Option Value
  | .non => some (.type "NoneType")
  | .bl => some (.type "bool")
  | .int => some (.type "int")
  | .str => some (.type "str")
  | .tup => some (.type "tuple")
  | .lst => some (.type "list")
  | .dic => some (.type "dict")
  | .obj c => (G.cls[c]?).map .ref
  | .exc c => (G.exs[c]?).map .ref
/-- what the classes must say -/
structure KindsOk (G : Cfg) : Prop where
  obj : ∀ (c : Nat) (C : Addr), G.cls[c]? = some C → Cls G.K C ∧ PySem.W.findIn G.K (.ref C) "__class__" = some (some (.builtin "object.__class__")) ∧ PySem.W.specialIn G.K (.builtin "object.__class__") "__get__" = some (some (.builtin "getset_descriptor.__get__")) ∧
    PySem.W.takesIn G.K (.builtin "object.__class__") = some true ∧ PySem.W.mroIn G.K C (.type "object") = some true
  exc : ∀ (c : Nat) (C : Addr), G.exs[c]? = some C → ExcC G.K C
section
variable {G : Cfg} {H : Hp} {θ : Th} {M : Sto} {v : V} {d : D}
theorem rep_kit (KO : KindsOk G) (S : StoR G H θ M) (r : Rep G H θ v d) {k : Kd} (h : kdOf M d = some k) : ∃ t, kdTy G k = some t ∧ ((∃ K, K = G.K ∧ TyX K H v t) ∨ ∃ (a C : Addr), v = .ref a ∧ t = .ref C ∧ H a = some (ExH (.ref C) none a) ∧ ExcC G.K C) := by
  cases r with
  | non => cases h; exact ⟨_, rfl, .inl ⟨_, rfl, .base .non⟩⟩
  | bl b => cases h; exact ⟨_, rfl, .inl ⟨_, rfl, .base (.bl b)⟩⟩
  | int b => cases h; exact ⟨_, rfl, .inl ⟨_, rfl, .base (.int b)⟩⟩
  | str b => cases h; exact ⟨_, rfl, .inl ⟨_, rfl, .base (.str b)⟩⟩
  | tup h' n r =>
    cases h
    rcases h' with h' | ⟨o, h'⟩
    · exact ⟨_, rfl, .inl ⟨_, rfl, .base (.tup h')⟩⟩
    · exact ⟨_, rfl, .inl ⟨_, rfl, .fTuple h'⟩⟩
  | ktup h' r =>
    cases h
    obtain ⟨o, its, n, e1, e2, _⟩ := h'
    exact ⟨_, rfl, .inl ⟨_, rfl, .kTuple e1 e2⟩⟩
  | lst h' n r => cases h; exact ⟨_, rfl, .inl ⟨_, rfl, .base (.lst h')⟩⟩
  | flst h' n r =>
    cases h
    rcases h' with h' | ⟨o, h'⟩
    · exact ⟨_, rfl, .inl ⟨_, rfl, .base (.lst h')⟩⟩
    · exact ⟨_, rfl, .inl ⟨_, rfl, .base (.frz h')⟩⟩
  | klst h' r =>
    cases h
    obtain ⟨o, its, n, e1, e2, _⟩ := h'
    exact ⟨_, rfl, .inl ⟨_, rfl, .kList e1 e2⟩⟩
  | dic h' n hk r => cases h; exact ⟨_, rfl, .inl ⟨_, rfl, .base (.dK h')⟩⟩
  | obj hc h' n hk r =>
    cases h
    obtain ⟨k1, k2, k3, k4, k5⟩ := KO.obj _ _ hc
    exact ⟨_, by show (G.cls[_]?).map Value.ref = _; rw [hc]; rfl, .inl ⟨_, rfl, .base (.ins h' k1 k2 k3 k4 k5)⟩⟩
  | exc0 hc h' n =>
    cases h
    exact ⟨_, by show (G.exs[_]?).map Value.ref = _; rw [hc]; rfl, .inr ⟨_, _, rfl, rfl, h', KO.exc _ _ hc⟩⟩
  | @exc1 a C dd fv c fs ds hc h' n hd nd hk r ne =>
    cases fs with
    | nil => exact absurd rfl ne
    | cons f fs => cases ds <;> cases h
  | @own a n h' =>
    have h : (match M[n]? with | some (.lst _) => some Kd.lst | some (.dic _ _) => some .dic | some (.dit _ _) => some .dic | some (.ins c _ _) => some (.obj c) | none => none) = some k := h
    cases hm : M[n]? with
    | none => rw [hm] at h; cases h
    | some m =>
      rw [hm] at h
      have mr := S.own h' hm
      cases m with
      | lst xs => cases h; obtain ⟨ys, e, _⟩ := mr; exact ⟨_, rfl, .inl ⟨_, rfl, .base (.lst e)⟩⟩
      | dic ks vs => cases h; obtain ⟨ys, e, _⟩ := mr; exact ⟨_, rfl, .inl ⟨_, rfl, .base (.dK e)⟩⟩
      | dit ks vs => cases h; obtain ⟨ys, e, _⟩ := mr; exact ⟨_, rfl, .inl ⟨_, rfl, .base (.dT e)⟩⟩
      | ins c fs vs =>
        cases h
        obtain ⟨C, dx, fv, hc, e, _⟩ := mr
        obtain ⟨k1, k2, k3, k4, k5⟩ := KO.obj _ _ hc
        exact ⟨_, by show (G.cls[_]?).map Value.ref = _; rw [hc]; rfl, .inl ⟨_, rfl, .base (.ins e k1 k2 k3 k4 k5)⟩⟩
section
variable {X : Cx} {a c : Expr} {fa : FE D} {p pos : Pos}
def rIsD (G : Cfg) (r : Kd → Option Bool) : List V → Hp → VK → Prop := fun xs H Q => ∃ θ M x y d k b, xs = [x, y] ∧ StoR G H θ M ∧ Rep G H θ x d ∧ kdOf M d = some k ∧ r k = some b ∧
  ((∃ u, ClsV y u ∧ ∀ t, kdTy G k = some t → PySem.W.kitOne G.K t u = some b) ∨ ∃ tp cs us, y = .ref tp ∧ H tp = some (.tup cs) ∧ Paired ClsV cs us ∧ ∀ t, kdTy G k = some t → PySem.W.kitAny G.K t us = some b) ∧ Q (.bl b) H
theorem cr_isD (ok : Okc G X) (KO : KindsOk G) (r : Kd → Option Bool) : CallR X (.builtin "isinstance") (rIsD G r) := by
  intro pins s σ H xs us Q I rv h
  obtain ⟨θ, M, x, y, d, k, b, rfl, S, rx, hk, hr, hc, q⟩ := h
  have hK := ok.hk
  obtain ⟨t, ht, hx⟩ := rep_kit KO S rx hk
  rcases hx with ⟨K', eK, ty⟩ | ⟨e, C, ex, et, he, xc⟩
  · subst eK
    rw [hK] at ty
    rcases hc with ⟨u, cu, hu⟩ | ⟨tp, cs, us', ey, hT, hp, hu⟩
    · exact call_isi pins s σ H _ us Q I rv ⟨x, y, t, u, b, rfl, cu, ty, by rw [← hK]; exact hu t ht, q⟩
    · subst ey
      exact call_isiT pins s σ H _ us Q I rv ⟨x, tp, cs, t, us', b, rfl, hT, hp, ty, by rw [← hK]; exact hu t ht, q⟩
  · subst ex et
    rw [hK] at xc
    obtain ⟨u1, u2, rfl, r1, r2⟩ := Vals.two rv
    obtain rfl : u1 = Value.ref e := r1
    obtain ⟨⟨oe, vs, h1, hz, hd⟩, _⟩ := (show ObjOk X.prog X.w H s.heap e (ExH (.ref C) none e) from I.hok e _ he)
    have inst : PySem.W.InstAt s.heap e oe C none := ⟨h1, hz.1, by unfold PySem.W.notCls; rw [hd], by rw [hz.2]; trivial⟩
    have Z := PySem.W.handS_kitx_exc (ox := oe) (x := e) xc.hg xc.hk xc.hs xc.hd xc.ha xc.hn xc.ht xc.hm
    rcases hc with ⟨u, cu, hu⟩ | ⟨tp, cs, us', ey, hT, hp, hu⟩
    · have e2 := cu.eq r2
      subst e2
      exact PySem.W.kia_one Z I.kIn inst (by rw [← hK]; exact hu _ ht) (fun z => nomatch z) fun tk => ⟨.bl b, H, I.tok tk, rfl, q⟩
    · subst ey
      obtain rfl : u2 = Value.ref tp := r2
      obtain ⟨_, its, rvs, o, g1, g2, n, g3⟩ := (show ObjOk X.prog X.w H s.heap tp (.tup cs) from I.hok tp _ hT)
      have e3 := ClsV.all hp rvs
      subst e3
      obtain ⟨oc, od, dt, sl⟩ := o
      simp only at g2 g3
      subst g2 g3
      exact PySem.W.kia_tup Z I.kIn inst g1 (by rw [← hK]; exact hu _ ht) (fun z => nomatch z) fun tk => ⟨.bl b, H, I.tok tk, rfl, q⟩
def dIsi (r : Kd → Option Bool) (fa : FE D) : FE D := fun ρ M => (fa ρ M).bind fun x M1 => match kdOf M1 x with
  | some k => match r k with
    | some b => .ok (.bl b) M1
    | none => .bad
  | none => .bad
def kIsi (r : Kd → Option Bool) (x : D) (N : Sto) : Res D := match kdOf N x with
  | some k => match r k with
    | some b => .ok (.bl b) N
    | none => .bad
  | none => .bad
theorem de_isi (KO : KindsOk G) {y : V} {u : Value} (r : Kd → Option Bool) (hm : X.mg "isinstance" = none) (ha : DE G X a fa) (hc : PE X c (tC y)) (cu : ClsV y u) (hr : ∀ k t b, kdTy G k = some t → r k = some b → PySem.W.kitOne G.K t u = some b) (hg : Gl X "isinstance" := by rfl)
    (hst : starEach [a, c] X.env = (false, eval a X.env) :: starEach [c] X.env := by rfl) (hst2 : starEach [c] X.env = (false, eval c X.env) :: starEach [] X.env := by rfl) (hpl : (backTo pos (starEach [c] X.env)).any (·.1) = false := by rfl) :
    DE G X (.Call (.Name "isinstance" p) [a, c] [] pos) (dIsi r fa) := fun ok W tk => by
  refine (pe_callB (cr_isD ok KO r) hg hm (by decide +kernel) (pa_cons (ha ok W tk) (pa_cons hc pa_nil hst2) hst) (by decide) (by decide) hst hpl).imp fun σ H Q h => ?_
  obtain ⟨ρ, θ, M, S, q⟩ := h
  show rdE G W fa σ H fun x H1 => rIsD G r [x, y] H1 Q
  refine rdE_seq (g := fun x _ N => kIsi r x N) S q fun x v H1 θ1 N S1 E1 r1 q1 => ?_
  unfold kIsi at q1
  split at q1
  · rename_i k hk
    split at q1
    · rename_i b hb
      exact ⟨θ1, N, v, y, x, k, b, rfl, S1.2, r1, hk, hb, .inl ⟨u, cu, fun t ht => hr k t b ht hb⟩, q1 H1 θ1 (Ext.refl _ _) S1.2 _ (.bl b)⟩
    · exact q1.elim
  · exact q1.elim
/-- the second is a built-in type -/
def kName : Kd → Option String
  | .non => some "NoneType"
  | .bl => some "bool"
  | .int => some "int"
  | .str => some "str"
  | .tup => some "tuple"
  | .lst => some "list"
  | .dic => some "dict"
  | _ => none
def isTy (n : String) (k : Kd) : Option Bool := (kName k).bind fun a => kitB a n
theorem isTy_ok {n : String} (k : Kd) (t : Value) (b : Bool) (ht : kdTy G k = some t) (h : isTy n k = some b) : PySem.W.kitOne G.K t (.type n) = some b := by
  unfold isTy at h
  obtain ⟨z, h1, h2⟩ := Option.bind_eq_some_iff.mp h
  cases k <;> cases h1 <;> (cases ht; exact kit_ty h2)
theorem de_isiT (KO : KindsOk G) {n : String} {x : Str} {px : Pos} (hm : X.mg "isinstance" = none) (hx : X.mg x = none) (ha : DE G X a fa) (hv : bootBuiltins x = some (.type n) := by decide +kernel) (hgx : Gl X x := by rfl) (hn : x ≠ "__name__" := by decide) (hd : (x == ("__debug__" : Str)) = false := by decide) (hg : Gl X "isinstance" := by rfl)
    (hst : starEach [a, .Name x px] X.env = (false, eval a X.env) :: starEach [.Name x px] X.env := by rfl) (hst2 : starEach [.Name x px] X.env = (false, eval (.Name x px) X.env) :: starEach [] X.env := by rfl) (hpl : (backTo pos (starEach [.Name x px] X.env)).any (·.1) = false := by rfl) :
    DE G X (.Call (.Name "isinstance" p) [a, .Name x px] [] pos) (dIsi (isTy n) fa) :=
  de_isi KO (isTy n) hm ha (pe_bltn (v := .ty n) hgx hx hv rfl hn hd) (.ty n) (fun k t b => isTy_ok k t b) hg hst hst2 hpl
/-- .. an own class, by a table -/
theorem de_isiC (KO : KindsOk G) {x : Str} {C : Addr} {px : Pos} (r : Kd → Option Bool) (hm : X.mg "isinstance" = none) (hx : X.mg x = some (.ref C)) (hr : ∀ k t b, kdTy G k = some t → r k = some b → PySem.W.kitOne G.K t (.ref C) = some b) (ha : DE G X a fa) (hgx : Gl X x := by rfl) (hd : (x == ("__debug__" : Str)) = false := by decide) (hg : Gl X "isinstance" := by rfl)
    (hst : starEach [a, .Name x px] X.env = (false, eval a X.env) :: starEach [.Name x px] X.env := by rfl) (hst2 : starEach [.Name x px] X.env = (false, eval (.Name x px) X.env) :: starEach [] X.env := by rfl) (hpl : (backTo pos (starEach [.Name x px] X.env)).any (·.1) = false := by rfl) :
    DE G X (.Call (.Name "isinstance" p) [a, .Name x px] [] pos) (dIsi r fa) :=
  de_isi KO r hm ha (pe_glob (v := .ref C) hgx hx rfl hd) (.own C) hr hg hst hst2 hpl
/-! ### repr -/
def gRepr (M : Sto) : List D → Option D
  | [x] => match toPy M x with
    | some d => if d.showable = true ∧ d.hasDict = false ∧ d.depth ≤ 60 ∧ d.shown.length ≤ sizeLine then some (.str d.shown) else none
    | none => none
  | _ => none
theorem cd_repr (hgd : X.A.guards = some []) : CallD G X (.builtin "repr") gRepr := fun ok => by
  intro pins s σ H xs us Q I rv h
  obtain ⟨θ, M, ds, d, S, rs, hg, q⟩ := h
  unfold gRepr at hg
  split at hg
  · rename_i x
    split at hg
    · rename_i e he
      split at hg
      · rename_i hc
        obtain ⟨h1, h2, h3, h4⟩ := hc
        cases hg
        cases rs with
        | cons r1 rs =>
          cases rs
          rename_i v
          obtain ⟨u, rfl, ru⟩ := Vals.one rv
          have dp := rep_dp S r1 he
          rw [ok.hk] at dp
          have fin : ∀ (h' : Heap) (t : Tok) (tk : Nat), (∀ b o, s.heap.get? b = some o → h'.get? b = some o) → EP X pins σ Q (.str e.shown t) { s with heap := h', toks := tk } := fun h' t tk k => ⟨.str e.shown, H, I.kept k, ⟨t, rfl⟩, q _ H (Ext.refl _ _) S (.str _)⟩
          obtain ⟨as, rd⟩ := Dp.reads I e v u dp ru
          cases dp with
          | non => cases ru; exact PySem.P.repr_of_none (fin s.heap _ _ fun _ _ z => z)
          | bl b => cases ru; exact PySem.P.repr_of_bool (fin s.heap _ _ fun _ _ z => z)
          | int i =>
            obtain ⟨t, rfl⟩ := ru
            have hz : i.natAbs.log2 < 1920 := by simpa [PyData.showable] using h1
            exact PySem.P.repr_of_int hz (by have z := fin s.heap s.toks (s.toks + 1) fun _ _ z => z; simpa [PyData.shown] using z)
          | str y =>
            obtain ⟨t, rfl⟩ := ru
            have hz : (reprText y).length ≤ sizeLine := by simpa [PyData.shown] using h4
            exact PySem.P.repr_of_str (by have z := fin s.heap s.toks (s.toks + 1) fun _ _ z => z; simpa [PyData.shown] using z) hz
          | lst hq hr =>
            obtain rfl := ru
            exact repr_of_reads' rd h1 (fun z => by rw [h2] at z; cases z) hgd (by have := ok.hu; omega) (fun _ _ z => z) (fun h' t tk k => fin h' t tk k) h4
          | tup hq hr =>
            obtain rfl := ru
            exact repr_of_reads' rd h1 (fun z => by rw [h2] at z; cases z) hgd (by have := ok.hu; omega) (fun _ _ z => z) (fun h' t tk k => fin h' t tk k) h4
      · cases hg
    · cases hg
  · cases hg
end
end
end DL
set_option maxHeartbeats 4000000
namespace DL
open PySem PySem.Spec PyProof.Rows L2
/-! ### a caught exception becomes known -/
section
variable {X : Cx} {pins : List (Addr × Obj)} {σ : L2.St} {H : Hp} {s : Shared} {a : Addr} {o : HO}
theorem inv_known (I : L2.Inv X pins σ H s) (hn : H a = none) (new : X.s_0.heap.get? a = none) (nL : a ≠ X.env.locals) (nc : ∀ x c, X.env.cells.lookup x = some c → c ≠ a) (np : ∀ p ∈ X.pn ++ pins, p.1 ≠ a) (ha : ObjOk X.prog X.w (upd H a o) s.heap a o) : L2.Inv X pins σ (upd H a o) s := by
  have up : ∀ {b : Addr} {u : HO}, H b = some u → upd H a o b = some u := fun {b u} e => by rw [upd_ne (ne_of_none e hn)]; exact e
  refine ⟨I.ok, I.os, I.bare, ⟨I.base.keep, I.base.slot, fun b ob e n hx => ?_, I.base.there, fun b xs e => up (I.base.tups b xs e), fun b ob u e => up (I.base.frzs b ob u e), fun b ps e => ?_⟩, I.loc, I.cell, ?_, fun x c e => ?_, fun p hp => ?_, fun b u e => ?_, I.len⟩
  · rw [upd_ne (fun z => by rw [z, new] at e; cases e)]
    exact I.base.free b ob e n hx
  · obtain ⟨more, e1⟩ := I.base.tbls b ps e
    exact ⟨more, up e1⟩
  · rw [upd_ne (Ne.symm nL)]; exact I.free
  · rw [upd_ne (nc x c e)]; exact I.freeC x c e
  · obtain ⟨e1, e2, e3⟩ := I.pin p hp
    exact ⟨e1, by rw [upd_ne (np p hp)]; exact e2, e3⟩
  · by_cases z : b = a
    · subst z
      rw [upd_same] at e
      cases e
      exact ha
    · rw [upd_ne z] at e
      exact (I.hok b u e).stay (fun c u' _ q => q) (fun c q => up q) fun c xs q => up q
end
/-- what the clause 'except x as n' wishes, the caught object known behind the suite -/
def wKeep (K : PySem.W.Frag) (c : Value) (i : Nat) (ts : Addr → TS) (Wout : WX) (D : Ends) : WX := fun cls d σ H =>
  ∃ b, PySem.W.exmOne K cls c = some b ∧ (b = true → ∀ a, H a = none → ts a { nx := fun σ' H' => H' a = none → D.nx (σ'.set i none) (upd H' a (ExH cls d a)), rt := fun _ _ => False } (σ.set i (some (.ref a))) H) ∧ (b = false → Wout cls d σ H)
section
variable {X : Cx} {x n : Str} {c : Value} {i : Nat} {body suite : List Stmt} {b₀ : Stmt} {np pos pos' : Pos} {tb : WX → TS} {ts : Addr → TS} {Wout : WX}
theorem ps_try_keep (hs : X.stack = X.env :: X.outer) (hf : X.env.frame = some X.env.locals) (hex : X.ex = []) (hN : X.N.Nodup) (hi : X.N[i]? = some n) (hln : X.env.kindOf n = some .local) (hc : Names X x c) (tk : Takes X Wout)
    (hb : ∀ (W : WX) (pn : List (Addr × Obj)) (xe : Value → Shared → Prop), Takes (X.tr pn xe) W → PassesOwn (model X.prog X.w) X.A X.env xe → PSs (X.tr pn xe) body (tb W)) (hsu : ∀ (a : Addr) (oe : Obj) (pn : List (Addr × Obj)), PSs (X.suite a ((a, oe) :: pn)) (b₀ :: suite) (ts a)) :
    PS X (.Try body [.ExceptHandler (some (.Name x np)) (some n) (b₀ :: suite) pos'] [] [] pos) (fun D σ H => tb (wKeep X.K c i ts Wout D) D σ H) := by
  refine ⟨fun pins s σ H D I h => ?_⟩
  have ok := I.ok
  have frm : X.A.frames = some (X.env :: X.outer) := by rw [ok.frames, hs]
  let hd := [ExceptHandler.ExceptHandler (some (.Name x np)) (some n) (b₀ :: suite) pos']
  let cat : Value → Shared → Prop := fun e s₃ => wpAny (model X.prog X.w) X.A (handleBy e X.env hd) (SP X pins D) X.xe s₃
  have tks : Takes (X.tr (X.pn ++ pins) fun e s₁ => wpAny (model X.prog X.w) X.A (noteFrame e X.env) (fun _ s₂ => wpAny (model X.prog X.w) X.A (setFlight e none) (fun _ s₃ => cat e s₃) X.xe s₂) X.xe s₁) (wKeep X.K c i ts Wout D) := fun u s' xx => by
    obtain ⟨a, B, sI, pins', σ', H', cls, d, rfl, J', nb, up, sky, na, os, ag, b, hb1, hyes, hno⟩ := xx
    have J : L2.Inv X pins σ' H' sI := J'.ofTry ok
    show wpAny (model X.prog X.w) X.A (noteFrame (.ref a) X.env) _ _ _
    refine Sky.land Zc.steady frm hf (by rw [← hs]; exact sky) fun h3 fl3 up3 => ?_
    have J3 : L2.Inv X pins σ' H' { s' with heap := h3 } := J.landed nb fl3.1 (up.trans up3) os ag
    obtain ⟨oe3, vs3, he3, hz3, hd3⟩ := fl3.there
    have nfr : a ∉ frs (X.env :: X.outer) := fun hm => by
      obtain ⟨_, o', e', hnf⟩ := fl3.2.2.1.mem hm
      rw [he3] at e'
      cases e'
      exact hnf _ hd3
    have nL : a ≠ X.env.locals := fun z => nfr (List.mem_filterMap.mpr ⟨X.env, List.mem_cons_self, by rw [hf, z]⟩)
    have nF : a ∉ X.fs := fun hm => by
      obtain ⟨e, he, q⟩ := List.mem_filterMap.mp hm
      exact nfr (List.mem_filterMap.mpr ⟨e, List.mem_cons_of_mem _ he, q⟩)
    -- a is newer than the state ahead of the raise
    have nI : sI.heap.get? a = none := by
      cases e : sI.heap.get? a with
      | none => rfl
      | some o =>
        have z := nb a o e (by rw [show (X.tr (X.pn ++ pins) fun e s₁ => wpAny (model X.prog X.w) X.A (noteFrame e X.env) (fun _ s₂ => wpAny (model X.prog X.w) X.A (setFlight e none) (fun _ s₃ => cat e s₃) X.xe s₂) X.xe s₁).stack = X.stack from rfl, hs]; exact nfr)
        rw [fl3.2.1] at z
        cases z
    have nS : X.s_0.heap.get? a = none := by
      cases e : X.s_0.heap.get? a with
      | none => rfl
      | some o =>
        obtain ⟨o', z⟩ := J.base.there a o e (by rw [hex]; exact List.not_mem_nil)
        rw [nI] at z
        cases z
    have nP : ∀ p ∈ X.pn ++ pins, p.1 ≠ a := fun p hp z => by
      have q := (J.pin p hp).1
      rw [z, nI] at q
      cases q
    have S3 := J3.suite he3 hd3 na nL nF
    show wpAny (model X.prog X.w) X.A (handleBy (.ref a) X.env hd) _ _ _
    refine wpAny_handleBy_cons (codeAny_handlers_test ?_) (by intro q; cases q)
    have LM := PySem.W.exm_one (M := model X.prog X.w) J3.kIn (fun A Q E s k q => wpAny_typeOf_ref (k _ _ he3) (by rw [hz3.1]; exact q)) hb1
    have test : ∀ {Q : Value → Shared → Prop} {E : Value → Shared → Prop}, Q c { s' with heap := h3 } → wpAny (model X.prog X.w) (X.A.mark (some (.ref a))) (eval (.Name x np) X.env) Q E { s' with heap := h3 } := fun {Q E} q => by
      obtain ⟨hg, hdbg, hm | ⟨hm, hv, hnn⟩⟩ := hc
      · exact ld_glob (X := X.suite a ((a, oe3) :: (X.pn ++ pins))) S3 hg hm q hdbg
      · exact ld_blt (X := X.suite a ((a, oe3) :: (X.pn ++ pins))) S3 hg hm hv q hnn hdbg
    refine test (LM.here ?_)
    cases b with
    | true =>
      refine codeAny_handlers_suite_as (HandSPX.lands_againZ fl3 fun h4 fl4 up4 => ?_)
      have J4 : L2.Inv X pins σ' H' { s' with heap := h4 } := J.landed nb fl4.1 ((up.trans up3).trans up4) os ag
      obtain ⟨oe4, vs4, he4, hz4, hd4⟩ := fl4.there
      have S4 := J4.suite he4 hd4 na nL nF
      refine store_ok (X := X.suite a ((a, oe4) :: (X.pn ++ pins))) (v := .ref a) S4 hN hi (.inl hln) rfl (fun s5 S5 => ?_) (.inr hln)
      refine wpAny_mono ((hsu a oe4 (X.pn ++ pins)).run [] s5 _ H' _ S5 (hyes rfl a na)) (fun f s6 hsp => ?_) (fun _ _ z => False.elim z)
      cases f with
      | next =>
        obtain ⟨σ6, H6, S6, q6⟩ := hsp
        have pin6 := S6.pin (a, oe4) (List.mem_append_left _ List.mem_cons_self)
        have J6 := S6.unsuite ok
        have J6k := inv_known (o := ExH cls d a) J6 pin6.2.1 nS nL (fun y cc e z => by
          obtain ⟨v, o', e1, e2⟩ := J6.cell y cc e
          rw [z, pin6.1] at e1
          cases e1
          exact pin6.2.2.2.2 v e2) nP ⟨⟨oe4, vs4, pin6.1, hz4, hd4⟩, ⟨_, pin6.1⟩, fun h1 h2 ⟨oe, vs, e1, e2, e3⟩ k => ⟨oe, vs, k oe e1, e2, e3⟩⟩
        exact gone_ok J6k hN hi hln fun s7 J7 => ⟨_, _, J7, q6 pin6.2.1⟩
      | brk => obtain ⟨_, _, _, q6⟩ := hsp; exact q6.elim
      | cont => obtain ⟨_, _, _, q6⟩ := hsp; exact q6.elim
      | ret u => obtain ⟨_, _, _, _, _, q6⟩ := hsp; exact q6.elim
    | false =>
      show wpAny _ X.A (handleBy (.ref a) X.env []) _ _ _
      refine wpAny_handleBy_nil ?_
      obtain ⟨k1, k2, k3, oe, vs, T, oT, ts', he, hz, hd5, h1, hr⟩ := id fl3
      unfold PySem.passOn
      refine wpAny_bind (wpAny_field he hd5 h1 ?_)
      rw [if_neg (show ¬ ((Value.ref T == Value.none) = true) from by simp)]
      have fin : wpAny (model X.prog X.w) X.A (setFlight (.ref a) X.env.frame) (fun _ s4 => wpAny (model X.prog X.w) X.A (throw (.ref a) : Sem Flow) (SP X pins D) X.xe s4) X.xe { s' with heap := h3 } := by
        rw [hf]
        exact HandSPX.setFlight_upZ fl3 fun h4 hh4 up4 => wpAny_throw (tk _ _ ⟨a, B, sI, pins, σ', H', cls, d, rfl, J, nb, (up.trans up3).trans up4, .inr (.inr (by rw [hs]; exact hh4)), na, os, ag, hno rfl⟩)
      first
        | exact wpAny_bind (wpAny_pure (wpAny_bind fin))
        | exact wpAny_bind fin
  refine wpAny_Try_except (wpAny_mono ((hb (wKeep X.K c i ts Wout D) (X.pn ++ pins) _ tks PassesOwn.looking).run [] s σ H D (I.toTry _) h) (fun f s1 hsp => ?_) fun e s1 he => he)
  cases f with
  | next => obtain ⟨σ', H', J', q⟩ := hsp; exact wpAny_execs_nil ⟨σ', H', J'.ofTry ok, q⟩
  | brk => obtain ⟨σ', H', J', q⟩ := hsp; exact ⟨σ', H', J'.ofTry ok, q⟩
  | cont => obtain ⟨σ', H', J', q⟩ := hsp; exact ⟨σ', H', J'.ofTry ok, q⟩
  | ret u => obtain ⟨v, σ', H', J', r, q⟩ := hsp; exact ⟨v, σ', H', J'.ofTry ok, r, q⟩
end
end DL
set_option maxHeartbeats 4000000
namespace DL
open PySem PySem.Spec PyProof.Rows L2 LamX
/-! ### the def that calls what it got and gives what it caught -/
/-- h = None; try: a() / except e as n: h = n; return h -/
def CatBody (a h n e : Str) (b : List Stmt) : Prop := ∃ (p1 p2 p3 p4 p5 p6 p7 p8 p9 p10 p11 p12 p13 p14 : Pos) (j : Nat), b = [.Assign [.Name h p1] (.Constant .none j p2) p3,
  .Try [.Expr (.Call (.Name a p4) [] [] p5) p6] [.ExceptHandler (some (.Name e p7)) (some n) [.Assign [.Name h p8] (.Name n p9) p10] p11] [] [] p12, .Return (some (.Name h p13)) p14]
def TTcat (K : PySem.W.Frag) (CS : Addr) : (XK → Hp → VK → Prop) → Hp → VK → Prop := fun tl H Q =>
  tl (fun cls d H' => PySem.W.exmOne K cls (.ref CS) = some true ∧ ∀ a, H' a = none → Q (.ref a) (upd H' a (ExH cls d a))) H fun _ H' => Q .non H'
/-- what is to be seen of the def's names -/
structure CatS (a h n e : Str) (sg : Scope) : Prop where
  sc : FnScope [a, h, n] [a] sg
  la : sg.names.lookup a = some .local
  lh : sg.names.lookup h = some .local
  ln : sg.names.lookup n = some .local
  le : sg.names.lookup e = some .globalImplicit
  da : (a == ("__debug__" : Str)) = false
  dh : (h == ("__debug__" : Str)) = false
  dn : (n == ("__debug__" : Str)) = false
  de : (e == ("__debug__" : Str)) = false
  ca : (a == ("__classdict__" : Str)) = false
  ch : (h == ("__classdict__" : Str)) = false
  cn : (n == ("__classdict__" : Str)) = false
theorem cat_gives {X : Cx} {x a h n e q : Str} {sg : Scope} {g CS : Addr} {cdg : Value} {b : List Stmt} (hb : CatBody a h n e b) (S : CatS a h n e sg) (hme : X.mg e = some (.ref CS)) : GivesTo X [a, h, n] x sg g cdg b a q (TTcat X.K CS) := by
  obtain ⟨p1, p2, p3, p4, p5, p6, p7, p8, p9, p10, p11, p12, p13, p14, j, rfl⟩ := hb
  intro f c' s H Q tl act hc hq
  let Y : Cx := (cxOf C8.CX0 X.prog X.w X.K X.mg X.base [a, h, n] x sg g cdg X.A X.stack s H C8.E0).nox
  have hN : Y.N.Nodup := S.sc.nd
  have vh : Vis Y.env.scope h := .inl S.lh
  have vn : Vis Y.env.scope n := .inl S.ln
  have st1 := ps_set (X := Y) (i := 1) (x := h) (e := .Constant .none j p2) (pos := p3) (pos' := p1) hN rfl (.inl S.lh) pe_non rfl (.inl rfl)
  have st3 := ps_ret (X := Y) (pos := p14) (pe_var (X := Y) (i := 1) (x := h) (pos := p13) rfl vh S.dh S.ch)
  have st2 := ps_try_keep (X := Y) (x := e) (n := n) (c := .ref CS) (i := 2) (body := [.Expr (.Call (.Name a p4) [] [] p5) p6]) (b₀ := .Assign [.Name h p8] (.Name n p9) p10) (suite := []) (np := p7) (pos := p12) (pos' := p11) (Wout := fun _ _ _ _ => False)
    (tb := fun W D σ H => ∃ Ech : XK, (∀ (cls : Value) (d : Option Addr) (σ' : L2.St) (H' : Hp), Ech cls d H' → σ'.length = 3 → W cls d σ' H') ∧ σ[0]? = some (some (.ref f)) ∧ H c' = some (CodeO c' q) ∧ tl Ech H fun _ H' => D.nx σ H')
    (ts := fun _ => tAsg (tVar 2) (gName 1)) rfl rfl rfl hN rfl S.ln ⟨S.le, S.de, .inl hme⟩ L2.takes0
    (fun W pn xe tk po => ⟨fun pins s' σ H' D I h' => h'.elim fun Ech hh => by
      obtain ⟨hW, h1, h2, h3⟩ := hh
      have tk' : Takes (Y.tr pn xe) (fun cls d σ' H' => σ'.length = 3 → W cls d σ' H') := fun u s1 xx => tk u s1 (by
        obtain ⟨a1, B, sI, pins1, σ1, H1, cls, d, e1, I1, e2, e3, e4, e5, e6, e7, w⟩ := xx
        exact ⟨a1, B, sI, pins1, σ1, H1, cls, d, e1, I1, e2, e3, e4, e5, e6, e7, w I1.len⟩)
      exact (pss_one (ps_expr (X := Y.tr pn xe) (pos := p6) (act (fun cls d σ' H' => σ'.length = 3 → W cls d σ' H') pn xe Ech p4 p5 tk' fun cls d σ' H' h => hW cls d σ' H' h) rfl)).run pins s' σ H' D I ⟨h1, h2, h3⟩⟩)
    (fun a' oe pn => pss_one (ps_set (X := Y.suite a' ((a', oe) :: pn)) (i := 1) (x := h) (e := .Name n p9) (pos := p10) (pos' := p8) hN rfl (.inl S.lh) (pe_var (i := 2) rfl vn S.dn S.cn) rfl (.inl rfl)))
  refine ⟨_, pss_cons st1 (pss_cons st2 (pss_one st3)), ?_⟩
  show ∃ Ech : XK, _
  refine ⟨fun cls d H' => PySem.W.exmOne X.K cls (.ref CS) = some true ∧ ∀ a, H' a = none → Q (.ref a) (upd H' a (ExH cls d a)), fun cls d σ' H' he hl => ⟨true, he.1, fun _ a' ha' => ?_, fun z => by cases z⟩, rfl, hc, ?_⟩
  · have g2 : (σ'.set 2 (some (V.ref a')))[2]? = some (some (.ref a')) := List.getElem?_set_self (by omega)
    refine ⟨.ref a', g2, fun ha2 => ⟨.ref a', ?_, he.2 a' ha2⟩⟩
    rw [List.getElem?_set_ne (by decide)]
    exact List.getElem?_set_self (by rw [List.length_set]; omega)
  · have ee : (fun (_ : V) (H' : Hp) => tRet (tVar 1) ({ nx := fun _ H' => Q .non H', rt := Q } : Ends) (List.set (L2.start [a, h, n] [V.ref f]) 1 (some V.non)) H') = fun _ H' => Q .non H' := by
      funext v H'
      refine propext ⟨fun ⟨v, e1, e2⟩ => ?_, fun z => ⟨.non, rfl, z⟩⟩
      have e1 : some (some V.non) = some (some v) := e1
      cases e1
      exact e2
    show tl _ H (fun (_ : V) (H' : Hp) => tRet (tVar 1) ({ nx := fun _ H' => Q .non H', rt := Q } : Ends) (List.set (L2.start [a, h, n] [V.ref f]) 1 (some V.non)) H')
    rw [ee]
    exact hq
/-! ### x(lambda: body) -/
def dCaught (fb : FE D) : FE D := fun ρ M => match fb ρ M with
  | .ok _ M' => .ok .non M'
  | .exc c fs vs M' => .ok (.exc c fs vs) M'
  | .bad => .bad
/-- what the law's own def for it is -/
structure CatD (G : Cfg) (mg : Str → Option Value) (x a h n e : Str) (st : Stmt) (g : Addr) (fd : FuncData) (CS : Addr) : Prop where
  fn : Fun G.K x x st g fd
  hm : mg x = some (.ref g)
  body : CatBody a h n e (defBody st)
  s : CatS a h n e (defScope st)
  hme : mg e = some (.ref CS)
  b : L2.Binds G.K fd [a] []
  ex : ∀ (c : Nat) (C : Addr), G.exs[c]? = some C → PySem.W.exmOne G.K (.ref C) (.ref CS) = some true
section
variable {G : Cfg} {X : Cx} {x a h n e : Str} {st : Stmt} {g CS : Addr} {fd : FuncData}
theorem ext_of_n {H H1 : Hp} {θ : Th} (E : ExtN H H1) : Ext H θ H1 θ := ⟨⟨[], by simp⟩, fun _ h => h, fun b o e _ t => E b o e t, fun b h n => absurd h n, fun b h n => absurd h n⟩
theorem sto_of_n {H H1 : Hp} {θ : Th} {M : Sto} (E : ExtN H H1) (S : StoR G H θ M) (t : Tabs G.T H1) : StoR G H1 θ M := ⟨S.nd, S.len, fun n m e => by
  obtain ⟨b, h1, h2⟩ := S.at_ n m e
  obtain ⟨o, h3, h4⟩ := h2.there
  exact ⟨b, h1, h2.ext (ext_of_n E) (by rw [h3, E b o h3 h4.1])⟩, t, fun b hb => by
  obtain ⟨o, h3, h4⟩ := S.hid b hb
  exact ⟨o, E b o h3 h4, h4⟩⟩
/-- x(lambda: body): t at the def's names -/
theorem de_caught {c P : Addr} {k : Nat} {params : Arguments} {body : Expr} {scope : Scope} {fb : FE D} {p lpos pos : Pos} (C : CatD G X.mg x a h n e st g fd CS) (TB : TabB X.base X.mg c P) (hcode : X.env.code = .ref c) (hmT : (P, X.env.qual ++ "<lambda>") ∈ G.T) (hu : ∀ q ∈ G.T, q.1 = P → q.2 = X.env.qual ++ "<lambda>")
    (hr : Room (k + 2) X.A) (hbody : ∀ (A : Around) (outer : List PySem.Env) (s : Shared) (H : Hp) (E : XK) (f c' : Addr), Room k (A.deeper (lamEnv X scope s.heap.objs.size f c')) → DE G (lamCx X A outer s H E scope f c') body fb)
    {sc0 : Scope} (hsc : X.env.scope = sc0) (L : lamSB sc0 scope = true) (hg : Gl X x := by rfl) (hdef : defaultsOf params X.env = ([], []) := by rfl)
    (hbind : ∀ (q : Str) (cl : List (Str × Addr)) (pm cv ctv : Value), bindArgs (PySem.W.kla_fn "<lambda>" q params body scope cl pm cv ctv) ⟨[], []⟩ = pure [] := by intros; rfl) (hdb : (x == ("__debug__" : Str)) = false := by decide) :
    DE G X (.Call (.Name x p) [.Lambda params body scope lpos] [] pos) (dCaught fb) := fun ok W tk => by
  subst hsc
  have F := C.fn
  have hK := ok.hk
  obtain ⟨oc, od, kV, doc, pm, an, cdv, ct, osl, hfd, lk, hcd⟩ := F.ex
  have kp := F.kp
  have bb := C.b
  rw [hfd] at lk bb
  rw [hK] at lk hcd kp bb
  refine (pe_lamcall (T := G.T) (TT := TTcat X.K CS) (a := a) (k := k) (t := fun E => rdE G (fun cls d _ H => E cls d H) fb) hg C.hm kp lk hcd bb C.s.sc rfl (.inl C.s.la) (cat_gives C.body C.s C.hme) TB hcode hmT hu hr (lamS_by L) hdef hbind
    (fun A outer s H E f c' hr2 => hbody A outer s H E f c' hr2 ⟨hK, rfl, by have := hr2.un; show (A.deeper (lamEnv X scope s.heap.objs.size f c')).units + 100 < cLine; omega⟩ _ (L2.takes_of rfl rfl rfl rfl)) hdb C.s.da C.s.ca).imp fun σ H Q q => ?_
  obtain ⟨ρ, θ, M, S, q⟩ := q
  refine ⟨S.2.tabs, fun H1 eN T1 => ?_⟩
  have E1 := ext_of_n (θ := θ) eN
  refine ⟨ρ, θ, M, ⟨S.1.ext E1, sto_of_n eN S.2 T1⟩, ?_⟩
  unfold dCaught at q
  cases er : fb ρ M with
  | ok d M' =>
    rw [er] at q
    exact fun H' θ' E S' v r => q H' θ' (E1.trans E) S' _ .non
  | exc c' fs vs M' =>
    rw [er] at q
    intro cls dd H' θ' E S' hx
    obtain ⟨Cc, hc, ecls, hd⟩ := hx
    subst ecls
    refine ⟨by rw [← hK]; exact C.ex c' Cc hc, fun p hp => ?_⟩
    have Eu : Ext H' θ' (upd H' p (ExH (.ref Cc) dd p)) θ' := Ext.alloc hp _
    refine q _ θ' ((E1.trans E).trans Eu) (S'.alloc hp _) _ ?_
    rcases hd with ⟨rfl, rfl, rfl⟩ | ⟨d2, fv, rfl, h1, h2, h3, h4, h5⟩
    · exact .exc0 hc upd_same (S'.out hp)
    · exact .exc1 hc upd_same (S'.out hp) (by rw [upd_ne (ne_of_none h1 hp)]; exact h1) h2 h3 (h4.ext Eu) h5
  | bad => rw [er] at q; exact q
end
end DL
set_option maxHeartbeats 4000000
namespace DL
open PySem PySem.Spec PyProof.Rows L2 LamX
/-! ### defs that want to know that no repr is under way (guards) -/
structure FnG (P : Program) (w : World) (K : PySem.W.Frag) (mg : Str → Option Value) (base : Heap) (k : Nat) (f : Addr) (fd : FuncData) (ps : List Str) (sp : Sp) : Prop where
  len : ∀ vs H Q E, sp vs H Q E → vs.length = ps.length
  run : ∀ (A : Around) (outer : List PySem.Env) (s : Shared) (H : Hp) (args : Args) (us : List Value) (vs : List V) (Q : VK) (E : XK), A.guards = some [] → Room k A → Env0 P w K mg base A outer s H → BindsTo s fd args (ps.zip us) → Vals vs us → sp vs H Q E →
    codeAny (model P w) A (.call (.ref f) args) (CR (L2.CX P w) outer P w H s Q E) s
section
variable {P : Program} {w : World} {K : PySem.W.Frag} {mg : Str → Option Value} {base : Heap} {G : Cfg}
theorem fn_dataG {name qual : Str} {params : Arguments} {body : List Stmt} {scope : Scope} {dV kV doc pm ct oc cdv : Value} {an od : Option Addr} {osl : Array (Option Value)} {f : Addr} {N ps : List Str} {k : Nat} {g : FS}
    (lk : K.lookup f = some ⟨oc, od, .func (PySem.W.fnOf name qual params body scope dV kV doc pm an cdv ct), osl⟩) (hcd : PySem.W.codeIn K cdv qual = true) (S : FnScope N ps scope) (hG : G.K = K)
    (hb : ∀ (A : Around) (outer : List PySem.Env) (s : Shared) (H : Hp) (E : XK), A.guards = some [] → Room k (A.deeper (envOfC qual scope s.heap.objs.size f cdv)) → DSs G (cxD P w K mg base N qual scope f cdv A outer s H E) body g) :
    FnG P w K mg base (k + 1) f (PySem.W.fnOf name qual params body scope dV kV doc pm an cdv ct) ps (spD G ps.length (fnD N.length g)) :=
  ⟨fun vs H Q E h => h.choose_spec.choose_spec.choose_spec.1, fun A outer s H args us vs Q E gd hr e0 hbt r h =>
    run_ofS lk hcd S hr e0 hbt r h.choose_spec.choose_spec.choose_spec.1 fun hr' => body_data hG hr' (hb A outer s H E gd hr') h⟩
theorem fn_dataGF {x qual : Str} {st : Stmt} {f : Addr} {fd : FuncData} {N ps : List Str} {k : Nat} {g : FS} (F : Fun K x qual st f fd) (S : FnScope N ps (defScope st)) (hG : G.K = K)
    (hb : ∀ (cdv : Value) (A : Around) (outer : List PySem.Env) (s : Shared) (H : Hp) (E : XK), A.guards = some [] → Room k (A.deeper (envOfC qual (defScope st) s.heap.objs.size f cdv)) → DSs G (cxD P w K mg base N qual (defScope st) f cdv A outer s H E) (defBody st) g) :
    FnG P w K mg base (k + 1) f fd ps (spD G ps.length (fnD N.length g)) := by
  obtain ⟨oc, od, kV, doc, pm, an, cdv, ct, osl, rfl, lk, hcd⟩ := F.ex
  exact fn_dataG lk hcd S hG fun A outer s H E gd hr => hb cdv A outer s H E gd hr
structure OwnG (G : Cfg) (P : Program) (w : World) (mg : Str → Option Value) (base : Heap) (k : Nat) (x : Str) (f : Addr) (fd : FuncData) (ps : List Str) (F : List D → Sto → Res D) : Prop where
  ok : FnG P w G.K mg base k f fd ps (spD G ps.length F)
  mgf : mg x = some (.ref f)
  kp : PySem.W.keepIn G.K (.ref f) = true
  b : L2.Binds G.K fd ps []
end
section
variable {G : Cfg} {X : Cx} {e : Expr} {es : List Expr} {fs : FE (List D)} {pos p : Pos} {x : Str} {f : Addr} {fd : FuncData} {ps : List Str} {F : List D → Sto → Res D} {j k : Nat}
theorem run_G {pins : List (Addr × Obj)} {σ : L2.St} {H : Hp} {s : Shared} {Q : VK} {us : List Value} {vs : List V} {sp : Sp} {E : XK} (FO : FnG X.prog X.w X.K X.mg X.base k f fd ps sp) (gd : X.A.guards = some []) (hr : Room k X.A) (hb : L2.Binds X.K fd ps [])
    (hx : PassesAt (L2.CX X.prog X.w) X σ E) (I : L2.Inv X pins σ H s) (r : Vals vs us) (h : sp vs H Q E) : wpAny (model X.prog X.w) X.A (call (.ref f) us) (EP X pins σ Q) X.xe s := by
  have hl : us.length = ps.length := r.length.symm.trans (FO.len _ _ _ _ h)
  have bt := hb s us I.kIn (by rw [List.append_nil]; exact hl)
  rw [List.append_nil] at bt
  have run := FO.run X.A X.stack s H ⟨us, []⟩ us vs Q E gd hr I.env0 bt r h
  exact wpAny_call (codeAny_mono run fun res s' hq => match res, hq with
    | .error e, hq => hx pins H s e s' I hq
    | .ok (.ret u), hq => I.after hq
    | .ok .next, hq => False.elim hq
    | .ok .brk, hq => False.elim hq
    | .ok .cont, hq => False.elim hq)
theorem de_callG (Fo : OwnG G X.prog X.w X.mg X.base j x f fd ps F) (gd : X.A.guards = some []) (hr : Room k X.A) (hj : j ≤ k) (ha : DA G X (e :: es) fs) (hlen : ∀ ρ M ds M', fs ρ M = .ok ds M' → ds.length = (e :: es).length) (hn : (e :: es).length = ps.length := by rfl) (hg : Gl X x := by rfl) (hdb : (x == ("__debug__" : Str)) = false := by decide)
    (he : starEach (e :: es) X.env = (false, eval e X.env) :: starEach es X.env := by rfl) (hpl : (backTo pos (starEach es X.env)).any (·.1) = false := by rfl) :
    DE G X (.Call (.Name x p) (e :: es) [] pos) (dCallF F fs) := fun ok W tk => ⟨fun pins s σ H Q I h => by
  have FO := Fo.ok
  have kp := Fo.kp
  have b := Fo.b
  rw [ok.hk] at FO kp b
  obtain ⟨ρ, θ, M, S, q⟩ := h
  have q : postR G W σ H θ (fun H' θ' _ d => ∀ v, Rep G H' θ' v d → Q v H') ((fs ρ M).bind F) := q
  refine wpAny_Call_Name_kw (ld_glob I hg Fo.mgf ?_ hdb)
  refine PySem.W.callWith_K (h₀ := X.base) I.ok.mod.kin kp (thn ((ha ok W tk).run pos pins s σ H (fun vs H1 => spD G ps.length F vs H1 Q (WE W σ)) I ⟨ρ, θ, M, S, ?_⟩) fun us s1 ⟨vs, H1, I1, r, q1⟩ => ⟨I1.kIn, run_G FO gd (hr.mono hj) b (passAt tk σ) I1 r q1⟩) he hpl
  cases e1 : fs ρ M with
  | ok ds N =>
    rw [e1] at q
    exact fun H1 θ1 E1 S1 vs r1 => ⟨ds, θ1, N, by rw [r1.length, hlen ρ M ds N e1, hn], S1, r1, callF_post (postR.base q E1)⟩
  | exc c fs' vs N => rw [e1] at q; exact q
  | bad => rw [e1] at q; exact q⟩
end
end DL
set_option maxHeartbeats 4000000
namespace DL
open PySem PySem.Spec PyProof.Rows L2 LamX
/-! ### the law's end: the law called from the bare ground, no repr under way -/
section
variable {P : Program} {w : World} {K : PySem.W.Frag} {mg mb : Str → Option Value} {k : Nat} {fa a : Addr} {cs : List (Addr × Addr)} {fd : FuncData} {x : Str} {sp : Sp} {s₁ : Shared} {vs : List Value} {ns : List Int}
/-- what is tracked at the law's entry: the tables, and the script (where it is no constant) -/
def entryH (K : PySem.W.Frag) (cs : List (Addr × Addr)) (a : Addr) (ob : Obj) (xs : List V) : Hp := fun b => if b ∈ cs.map (·.2) then some (.tbl #[]) else if b = a ∧ (K.lookup a).isNone = true then some (.frz ob (.lst xs)) else none
theorem entry_elim {ob : Obj} {xs : List V} {b : Addr} {u : HO} (h : entryH K cs a ob xs b = some u) : (b ∈ cs.map (·.2) ∧ u = .tbl #[]) ∨ (b ∉ cs.map (·.2) ∧ b = a ∧ K.lookup a = none ∧ u = .frz ob (.lst xs)) := by
  unfold entryH at h
  split at h
  · rename_i hb
    cases h
    exact .inl ⟨hb, rfl⟩
  · rename_i hb
    split at h
    · rename_i ha
      cases h
      exact .inr ⟨hb, ha.1, Option.isNone_iff_eq_none.mp ha.2, rfl⟩
    · cases h
theorem law_callG (KX : K.In s₁.heap) (hns : s₁.heap.Ns mainGlobals mg) (hb : s₁.heap.Ns builtinsNs mb) (hbb : ∀ x : Str, x ≠ "__name__" → mb x = bootBuiltins x) (hlim : s₁.heap.NoLimit) (hg : s₁.gens = #[])
    (hT : ∀ p ∈ cs, s₁.heap.get? p.2 = some { cls := .none, data := .fields #[] }) (nT : ∀ p ∈ cs, K.lookup p.2 = none) (C : ∀ p ∈ cs, PySem.W.CodeHd s₁.heap p.1 p.2)
    (hbm : ∃ (bm : Addr) (ob : Obj), mg "__builtins__" = some (.ref bm) ∧ bm ≠ builtinsNs ∧ s₁.heap.get? bm = some ob ∧ ob.cls = .type "module" ∧ ob.dict = some builtinsNs ∧ ob.data = .plain)
    (ha : s₁.heap.get? a = some { cls := .type "list", data := .seq vs.toArray }) (hi : IntsAre vs ns) (hl : ns.length ≤ sizeLine) (hr : Room k callerA)
    (Fg : ∀ base : Heap, K.In base → base.Ns mainGlobals mg → (∀ p ∈ cs, TabB base mg p.1 p.2) → FnG P w K mg base k fa fd [x] sp) (hbind : ∀ (s : Shared) (u : Value), BindsTo s fd ⟨[u], []⟩ [(x, u)])
    (hsp : ∀ H : Hp, (∀ p ∈ cs, H p.2 = some (.tbl #[])) → SqL K H a (ns.map V.int) → sp [.ref a] H (fun v _ => v = .bl true) fun _ _ _ => False) :
    codeAny (model P w) callerA (.call (.ref fa) ⟨[.ref a], []⟩) (fun r s' => r = .ok (.ret (.bool true)) ∧ OldK s₁.heap s'.heap ∧ s'.os = s₁.os ∧ AllBare s'.gens) s₁ := by
  have rv : Vals (ns.map V.int) vs := vals_ints hi
  let lo : Obj := { cls := .type "list", data := .seq vs.toArray }
  let H : Hp := entryH K cs a lo (ns.map V.int)
  have tabAt : ∀ b ∈ cs.map (·.2), s₁.heap.get? b = some { cls := .none, data := .fields #[] } := fun b hb => by
    obtain ⟨p, hp, rfl⟩ := List.mem_map.mp hb
    exact hT p hp
  have nTa : a ∉ cs.map (·.2) := fun z => by
    have q := (tabAt a z).symm.trans ha
    cases q
  have HT : ∀ p ∈ cs, H p.2 = some (.tbl #[]) := fun p hp => if_pos (List.mem_map.mpr ⟨p, hp, rfl⟩)
  have HS : SqL K H a (ns.map V.int) := by
    cases e : K.lookup a with
    | none => exact .inl (.inr ⟨lo, (if_neg nTa).trans (if_pos ⟨rfl, by rw [e]; rfl⟩)⟩)
    | some o =>
      have q := KX a o e
      rw [ha] at q
      cases q
      exact .inr ⟨_, vs.toArray, _, e, rfl, rfl, rfl, by rw [List.size_toArray, hi.length]; exact hl, by simpa using rv⟩
  -- no record but the tables', no list but the script's is tracked
  have free : ∀ {b : Addr} {o : Obj}, s₁.heap.get? b = some o → (o ≠ lo) → (o ≠ { cls := .none, data := .fields #[] }) → H b = none := fun {b o} e n1 n2 => by
    cases q : H b with
    | none => rfl
    | some u =>
      rcases entry_elim q with ⟨h1, _⟩ | ⟨_, h1, _⟩
      · exact absurd (Option.some.inj (e.symm.trans (tabAt b h1))) n2
      · rw [h1] at e
        exact absurd (Option.some.inj (e.symm.trans ha)) n1
  have old : ∀ {b : Addr} {o : Obj}, s₁.heap.get? b = some o → H b = none → (hidT s₁.heap H).get? b = some o := fun e n => hidT_get e n
  have nsOf : ∀ {b : Addr} {m : Str → Option Value}, s₁.heap.Ns b m → (hidT s₁.heap H).Ns b m := fun {b m} ⟨o, es, ep, e, d, r⟩ => ⟨o, es, ep, old e (free e (fun z => by rw [z] at d; cases d) fun z => by rw [z] at d; cases d), d, r⟩
  have KB : K.In (hidT s₁.heap H) := fun b o e => old (KX b o e) (by
    cases q : H b with
    | none => rfl
    | some u =>
      rcases entry_elim q with ⟨h1, _⟩ | ⟨_, h1, h2, _⟩
      · obtain ⟨p, hp, ep⟩ := List.mem_map.mp h1
        have z := nT p hp
        rw [ep, e] at z
        cases z
      · rw [h1, h2] at e
        cases e)
  have MB : L2.Mod K mg (hidT s₁.heap H) := by
    obtain ⟨mc, l1, l2⟩ := hlim
    exact ⟨KB, nsOf hns, ⟨mb, nsOf hb, hbb⟩, mc, nsOf l1, l2⟩
  have OKH : HOk P w H s₁.heap := fun b u q => by
    rcases entry_elim q with ⟨h1, rfl⟩ | ⟨_, rfl, _, rfl⟩
    · exact tabAt b h1
    · exact ⟨ha, by rw [List.length_map]; exact hl, vs, _, rv, ha⟩
  have TBS : ∀ p ∈ cs, TabB (hidT s₁.heap H) mg p.1 p.2 := fun p hp => by
    obtain ⟨o, us, file, tf, flags, tg, inF, text, tt, e1, r1, r2, r3, r4, r5, r6, r7, r8, hne⟩ := C p hp
    obtain ⟨bm, ob, b1, b2, b3, b4, b5, b6⟩ := hbm
    obtain ⟨og, es, ep, g1, g2, _⟩ := hns
    have no1 : ob ≠ lo := fun z => by
      rw [z] at b6
      cases b6
    have no2 : ob ≠ { cls := .none, data := .fields #[] } := fun z => by
      rw [z] at b6
      cases b6
    refine ⟨⟨o, us, file, tf, flags, tg, inF, text, tt, old e1 (free e1 (fun z => ?_) fun z => ?_), r1, r2, r3, r4, r5, r6, r7, r8, hne⟩, ⟨bm, ob, b1, b2, fun z => ?_, fun z => ?_, old b3 (free b3 no1 no2), b4, b5, b6⟩, fun z => ?_⟩
    · rw [z] at r2
      cases r2
    · rw [z] at r2
      cases r2
      simp at r3
    · rw [z, g1] at b3
      cases b3
      rw [g2] at b6
      cases b6
    · rw [z, hT p hp] at b3
      cases b3
      cases b6
    · rw [z, hT p hp] at g1
      cases g1
      cases g2
  have E0' : Env0 P w K mg (hidT s₁.heap H) callerA [] s₁ H := ⟨rfl, MB, fun b o e => of_hidT e, Nat.le_of_eq (hidT_size _ _), trivial, fun b hb => absurd hb List.not_mem_nil, OKH, .of_eq hg⟩
  refine codeAny_mono ((Fg _ KB (nsOf hns) TBS).run callerA [] s₁ H ⟨[.ref a], []⟩ [.ref a] [.ref a] _ _ rfl hr E0' (hbind s₁ (.ref a)) (.cons rfl .nil) (hsp H HT HS)) fun r s' h => ?_
  match r, h with
  | .error e, h =>
    obtain ⟨_, _, _, _, _, _, _, _, _, _, _, _, z⟩ := h
    exact z.elim
  | .ok .next, h => exact False.elim h
  | .ok .brk, h => exact False.elim h
  | .ok .cont, h => exact False.elim h
  | .ok (.ret u), h =>
    obtain ⟨v, H', os, bare, un, hok', r', q⟩ := h
    have q : v = .bl true := q
    subst q
    obtain rfl : u = Value.bool true := r'
    have noEx : ∀ b : Addr, b ∉ ([] : List Addr) := fun _ => List.not_mem_nil
    have stay : ∀ b o, b ∉ cs.map (·.2) → s₁.heap.get? b = some o → s'.heap.get? b = some o := fun b o nb e => by
      cases q : H b with
      | none => exact un.keep b o e q (noEx b) (noEx b)
      | some u =>
        rcases entry_elim q with ⟨h1, _⟩ | ⟨_, h1, _, h2⟩
        · exact absurd h1 nb
        · rw [h2] at q
          have z := (hok' b _ (un.frzs b lo _ q)).1
          rw [h1, ha] at e
          cases e
          exact z
    have grew : ∀ b ∈ cs.map (·.2), ∃ more : Array Value, s'.heap.get? b = some { cls := .none, data := .fields more } := fun b hb => by
      obtain ⟨p, hp, rfl⟩ := List.mem_map.mp hb
      obtain ⟨more, z⟩ := un.tbls p.2 #[] (HT p hp)
      exact ⟨_, hok' p.2 _ z⟩
    refine ⟨rfl, ⟨fun b o e => ?_, fun b o e => ?_⟩, os, bare⟩
    · by_cases hb : b ∈ cs.map (·.2)
      · obtain ⟨more, hm⟩ := grew b hb
        obtain ⟨p, hp, rfl⟩ := List.mem_map.mp hb
        rw [hT p hp] at e
        cases e
        exact .inr (.inl ⟨((C p hp).tab (hT p hp)).isCodeTable, rfl, #[], more, rfl, by rw [Array.empty_append]; exact hm⟩)
      · exact .inl (stay b o hb e)
    · by_cases hb : b ∈ cs.map (·.2)
      · obtain ⟨more, hm⟩ := grew b hb
        exact ⟨_, hm⟩
      · exact ⟨o, stay b o hb e⟩
end
/-- what is known of the law at the head's heap h -/
def LawG (l : PySem.W.OpenLaw) (w : World) (K : PySem.W.Frag) (k n : Nat) (x : Str) (mg : Str → Option Value) (fa : Addr) (h : Heap) : Prop :=
  ∃ (fd : FuncData) (cs : List (Addr × Addr)) (sp : Sp), (∀ p ∈ cs, h.get? p.2 = some { cls := .none, data := .fields #[] }) ∧ (∀ p ∈ cs, K.lookup p.2 = none) ∧ (∀ p ∈ cs, PySem.W.CodeHd h p.1 p.2) ∧ (∀ (s : Shared) (u : Value), BindsTo s fd ⟨[u], []⟩ [(x, u)]) ∧
    (∀ (H : Hp) (a : Addr) (ns : List Int), ns.length ≤ n → (∀ z ∈ ns, Builtin.Int.intBits z ≤ 1048576) → (∀ p ∈ cs, H p.2 = some (.tbl #[])) → SqL K H a (ns.map V.int) → sp [.ref a] H (fun v _ => v = .bl true) fun _ _ _ => False) ∧
    ∀ base : Heap, K.In base → base.Ns mainGlobals mg → (∀ p ∈ cs, TabB base mg p.1 p.2) → FnG l.prog w K mg base k fa fd [x] sp
theorem walk_G {l : PySem.W.OpenLaw} {n k : Nat} {q : Program} {loose : List Str} {XP : (Str → Option Value) → Heap → Prop} {YP : World → Heap → Prop} {d : DefRec} {K : Params → PySem.W.Frag} {x : Str} (hn : l.most = some n) (hn2 : n ≤ sizeLine) (hdf : d.params.defaults = []) (hr : Room k callerA)
    (hY : ∀ (w : World) (h : Heap), YP w h → (K w.params).In h) (Fl : ∀ (w : World) (mg : Str → Option Value) (fa : Addr) (h : Heap), YP w h → (K w.params).In h → h.Ns mainGlobals mg → mg d.name = some (.ref fa) → LawG l w (K w.params) k n x mg fa h) :
    PySem.W.WalkO q loose XP YP l.row.toRowW d [] (fun f vs => PySem.call f vs) := by
  refine Att.attach_callB hn hdf fun w s₀ s₁ mg mb fa o pm cd doc a vs ns Gd Y ho hd hcd hmg hobj hints hlen hbits hgens => ?_
  have KX := hY w _ Y
  obtain ⟨fd, cs, sp, hT, nT, C, hbd, hsp, hF⟩ := Fl w mg fa _ Y KX Gd.T.g hmg
  exact law_callG KX Gd.T.g Gd.T.b Gd.T.builtins Gd.T.nolimit hgens hT nT C Gd.T.bmain hobj hints (Nat.le_trans hlen hn2) hr hF hbd fun H hH hS => hsp H a ns hlen hbits hH hS
/-- the entry of the law, by data -/
theorem law_entry {K : PySem.W.Frag} {G : Cfg} {F : List D → Sto → Res D} {H : Hp} {a : Addr} {ns : List Int} (hG : G.K = K) (hT : ∀ p ∈ G.T, H p.1 = some (.tbl #[])) (hS : SqL K H a (ns.map V.int)) (h : ∃ M, F [.flst (ns.map D.int)] [] = .ok (.bl true) M) :
    spD G 1 F [.ref a] H (fun v _ => v = .bl true) fun _ _ _ => False := by
  have th : Th := ⟨[], [], fun _ h => absurd h List.not_mem_nil⟩
  have rs : ∀ (θ : Th) (ns : List Int), Reps G H θ (ns.map V.int) (ns.map D.int) := fun θ ns => by
    induction ns with
    | nil => exact .nil
    | cons n ns ih => exact .cons (.int n) ih
  refine ⟨[.flst (ns.map D.int)], ⟨[], [], fun _ h => absurd h List.not_mem_nil⟩, [], rfl, ⟨List.nodup_nil, rfl, fun n m e => by simp at e, fun p hp => TabS.nil (hT p hp), fun b hb => absurd hb List.not_mem_nil⟩, .cons ?_ .nil, ?_⟩
  · rcases hS with hS | hS
    · exact .flst hS List.not_mem_nil (rs _ ns)
    · exact .klst (by rw [hG]; exact hS) (rs _ ns)
  · obtain ⟨M, e⟩ := h
    rw [e]
    exact fun v H' θ' E S r => rep_bl r
end DL
set_option maxHeartbeats 4000000
namespace DL
open PySem PySem.Spec PyProof.Rows L2 LamX
/-- a def whose code object is at c -/
structure FunC (K : PySem.W.Frag) (x qual : Str) (st : Stmt) (f : Addr) (fd : FuncData) (c : Addr) : Prop where
  ex : ∃ (oc : Value) (od : Option Addr) (kV doc pm : Value) (an : Option Addr) (ct : Value) (osl : Array (Option Value)),
    fd = PySem.W.fnOf x qual (defArgs st) (defBody st) (defScope st) .none kV doc pm an (.ref c) ct ∧ K.lookup f = some ⟨oc, od, .func fd, osl⟩ ∧ PySem.W.codeIn K (.ref c) qual = true
  kp : PySem.W.keepIn K (.ref f) = true
theorem funC_mk {K : PySem.W.Frag} {x qual : Str} {st : Stmt} {f c : Addr} {oc : Value} {od an : Option Addr} {osl : Array (Option Value)} {kV doc pm ct : Value} (l : K.lookup f = some ⟨oc, od, .func (PySem.W.fnOf x qual (defArgs st) (defBody st) (defScope st) .none kV doc pm an (.ref c) ct), osl⟩)
    (h : PySem.W.codeIn K (.ref c) qual = true) (k : PySem.W.keepIn K (.ref f) = true) : FunC K x qual st f (PySem.W.fnOf x qual (defArgs st) (defBody st) (defScope st) .none kV doc pm an (.ref c) ct) c := ⟨⟨oc, od, kV, doc, pm, an, ct, osl, rfl, l, h⟩, k⟩
section
variable {P : Program} {w : World} {K : PySem.W.Frag} {mg : Str → Option Value} {base : Heap} {G : Cfg} {x qual : Str} {st : Stmt} {f c : Addr} {fd : FuncData} {N ps : List Str} {k : Nat} {g : FS}
theorem FunC.fn (F : FunC K x qual st f fd c) : Fun K x qual st f fd := by
  obtain ⟨oc, od, kV, doc, pm, an, ct, osl, h1, h2, h3⟩ := F.ex
  exact ⟨⟨oc, od, kV, doc, pm, an, .ref c, ct, osl, h1, h2, h3⟩, F.kp⟩
theorem fn_dataFC (F : FunC K x qual st f fd c) (S : FnScope N ps (defScope st)) (hG : G.K = K)
    (hb : ∀ (A : Around) (outer : List PySem.Env) (s : Shared) (H : Hp) (E : XK), Room k (A.deeper (envOfC qual (defScope st) s.heap.objs.size f (.ref c))) → DSs G (cxD P w K mg base N qual (defScope st) f (.ref c) A outer s H E) (defBody st) g) :
    FnOk P w K mg base (L2.CX P w) (k + 1) f fd ps (spD G ps.length (fnD N.length g)) := by
  obtain ⟨oc, od, kV, doc, pm, an, ct, osl, rfl, h2, h3⟩ := F.ex
  exact fn_dataC h2 h3 S hG hb
theorem fn_dataGC (F : FunC K x qual st f fd c) (S : FnScope N ps (defScope st)) (hG : G.K = K)
    (hb : ∀ (A : Around) (outer : List PySem.Env) (s : Shared) (H : Hp) (E : XK), A.guards = some [] → Room k (A.deeper (envOfC qual (defScope st) s.heap.objs.size f (.ref c))) → DSs G (cxD P w K mg base N qual (defScope st) f (.ref c) A outer s H E) (defBody st) g) :
    FnG P w K mg base (k + 1) f fd ps (spD G ps.length (fnD N.length g)) := by
  obtain ⟨oc, od, kV, doc, pm, an, ct, osl, rfl, h2, h3⟩ := F.ex
  exact fn_dataG h2 h3 S hG hb
end
/-- a def without lambdas among its own is one that asks less -/
theorem Own.g {G : Cfg} {P : Program} {w : World} {mg : Str → Option Value} {base : Heap} {k : Nat} {x : Str} {f : Addr} {fd : FuncData} {ps : List Str} {F : List D → Sto → Res D} (o : Own G P w mg base k x f fd ps F) : OwnG G P w mg base k x f fd ps F :=
  ⟨⟨o.ok.len, fun A outer s H args us vs Q E _ hr e0 hb r h => o.ok.run A outer s H args us vs Q E hr e0 hb r h⟩, o.mgf, o.kp, o.b⟩
end DL
set_option maxHeartbeats 4000000
namespace DL
open PySem L2
/-! ### plain equations -/
section
variable {α β : Type} {M : Sto} {ρ : Env}
@[simp] theorem bind_ok (a : α) (g : α → Sto → Res β) : (Res.ok a M).bind g = g a M := rfl
@[simp] theorem bind_exc (c : Nat) (fs : List Str) (vs : List D) (g : α → Sto → Res β) : (Res.exc c fs vs M : Res α).bind g = .exc c fs vs M := rfl
@[simp] theorem thn_ok (a : α) (g : α → Sto → Out) : (Res.ok a M).thn ρ g = g a M := rfl
@[simp] theorem thn_exc (c : Nat) (fs : List Str) (vs : List D) (g : α → Sto → Out) : (Res.exc c fs vs M : Res α).thn ρ g = .exc c fs vs ρ M := rfl
@[simp] theorem ofO_some' (a : α) : Res.ofO (some a) M = .ok a M := rfl
@[simp] theorem seq_nx (k : Env → Sto → Out) : (Out.nx ρ M).seq k = k ρ M := rfl
@[simp] theorem seq_rt (d : D) (k : Env → Sto → Out) : (Out.rt d M).seq k = .rt d M := rfl
@[simp] theorem seq_exc (c : Nat) (fs : List Str) (vs : List D) (k : Env → Sto → Out) : (Out.exc c fs vs ρ M).seq k = .exc c fs vs ρ M := rfl
@[simp] theorem seq_bk (k : Env → Sto → Out) : (Out.bk ρ M).seq k = .bk ρ M := rfl
@[simp] theorem seq_ct (k : Env → Sto → Out) : (Out.ct ρ M).seq k = .ct ρ M := rfl
@[simp] theorem aft_nx (k : Env → Sto → Out) : (Out.nx ρ M).aft k = k ρ M := rfl
@[simp] theorem aft_ct (k : Env → Sto → Out) : (Out.ct ρ M).aft k = k ρ M := rfl
@[simp] theorem aft_bk (k : Env → Sto → Out) : (Out.bk ρ M).aft k = .nx ρ M := rfl
@[simp] theorem aft_rt (d : D) (k : Env → Sto → Out) : (Out.rt d M).aft k = .rt d M := rfl
@[simp] theorem aft_exc (c : Nat) (fs : List Str) (vs : List D) (k : Env → Sto → Out) : (Out.exc c fs vs ρ M).aft k = .exc c fs vs ρ M := rfl
/-- what a def gives of its body's end -/
def outR : Out → Res D
  | .nx _ M' => .ok .non M'
  | .rt d M' => .ok d M'
  | .exc c fs vs _ M' => .exc c fs vs M'
  | _ => .bad
@[simp] theorem outR_nx : outR (.nx ρ M) = .ok .non M := rfl
@[simp] theorem outR_rt (d : D) : outR (.rt d M) = .ok d M := rfl
@[simp] theorem outR_exc (c : Nat) (fs : List Str) (vs : List D) : outR (.exc c fs vs ρ M) = .exc c fs vs M := rfl
theorem fnD_eq (n : Nat) (g : FS) (ds : List D) (M : Sto) : fnD n g ds M = outR (g (ds.map some ++ List.replicate (n - ds.length) none) M) := by
  unfold fnD outR
  cases g (ds.map some ++ List.replicate (n - ds.length) none) M <;> rfl
/-! expressions -/
theorem dVar_at {i : Nat} {d : D} (h : ρ[i]? = some (some d)) : dVar i ρ M = .ok d M := by
  unfold dVar
  rw [h]
@[simp] theorem dVar_0 (d : D) (r : Env) : dVar 0 (some d :: r) M = .ok d M := rfl
@[simp] theorem dVar_s (i : Nat) (x : Option D) (r : Env) : dVar (i + 1) (x :: r) M = dVar i r M := rfl
@[simp] theorem dC_eq (d : D) : dC d ρ M = .ok d M := rfl
@[simp] theorem dBin_eq (g : Sto → D → D → Option D) (a b : FE D) : dBin g a b ρ M = (a ρ M).bind fun x M1 => (b ρ M1).bind fun y M2 => .ofO (g M2 x y) M2 := rfl
@[simp] theorem dAnd_eq (a b : FE Bool) : dAnd a b ρ M = (a ρ M).bind fun c M1 => if c = true then b ρ M1 else .ok false M1 := rfl
@[simp] theorem dOr_eq (a b : FE Bool) : dOr a b ρ M = (a ρ M).bind fun c M1 => if c = true then .ok true M1 else b ρ M1 := rfl
@[simp] theorem dNot_eq (a : FE Bool) : dNot a ρ M = (a ρ M).bind fun c M1 => .ok (!c) M1 := rfl
def asB (x : D) (M1 : Sto) : Res Bool := match x with
  | .bl k => .ok k M1
  | _ => .bad
@[simp] theorem asB_bl (k : Bool) : asB (.bl k) M = .ok k M := rfl
@[simp] theorem dTst_eq (f : FE D) : dTst f ρ M = (f ρ M).bind asB := rfl
def andV (fb : FE D) (ρ : Env) (x : D) (M1 : Sto) : Res D := match x with
  | .bl true => fb ρ M1
  | .bl false => .ok (.bl false) M1
  | _ => .bad
def orV (fb : FE D) (ρ : Env) (x : D) (M1 : Sto) : Res D := match x with
  | .bl false => fb ρ M1
  | .bl true => .ok (.bl true) M1
  | _ => .bad
@[simp] theorem andV_bl (fb : FE D) (k : Bool) : andV fb ρ (.bl k) M = if k = true then fb ρ M else .ok (.bl false) M := by cases k <;> rfl
@[simp] theorem orV_bl (fb : FE D) (k : Bool) : orV fb ρ (.bl k) M = if k = true then .ok (.bl true) M else fb ρ M := by cases k <;> rfl
@[simp] theorem dAndV_eq (a b : FE D) : dAndV a b ρ M = (a ρ M).bind (andV b ρ) := rfl
@[simp] theorem dOrV_eq (a b : FE D) : dOrV a b ρ M = (a ρ M).bind (orV b ρ) := rfl
def notV (x : D) (M1 : Sto) : Res D := match x with
  | .bl k => .ok (.bl (!k)) M1
  | _ => .bad
@[simp] theorem notV_bl (k : Bool) : notV (.bl k) M = .ok (.bl (!k)) M := rfl
@[simp] theorem dNotV_eq (a : FE D) : dNotV a ρ M = (a ρ M).bind notV := rfl
@[simp] theorem dIf_eq (t : FE Bool) (a b : FE α) : dIf t a b ρ M = (t ρ M).bind fun c M1 => if c = true then a ρ M1 else b ρ M1 := rfl
@[simp] theorem dNil_eq : dNil ρ M = .ok [] M := rfl
@[simp] theorem dCons_eq (a : FE D) (r : FE (List D)) : dCons a r ρ M = (a ρ M).bind fun x M1 => (r ρ M1).bind fun xs M2 => .ok (x :: xs) M2 := rfl
@[simp] theorem dTup_eq (fs : FE (List D)) : dTup fs ρ M = (fs ρ M).bind fun xs M1 => if xs.length ≤ sizeLine then .ok (.tup xs) M1 else .bad := rfl
@[simp] theorem dLst_eq (fs : FE (List D)) : dLst fs ρ M = (fs ρ M).bind fun xs M1 => if xs.length ≤ sizeLine then .ok (.lst xs) M1 else .bad := rfl
@[simp] theorem dLstO_eq (fs : FE (List D)) : dLstO fs ρ M = (fs ρ M).bind fun xs M1 => if xs.length ≤ sizeLine then .ok (.own M1.length) (M1 ++ [.lst xs]) else .bad := rfl
def negV (x : D) (M1 : Sto) : Res D := match x with
  | .int i => .ok (.int (-i)) M1
  | _ => .bad
@[simp] theorem negV_int (i : Int) : negV (.int i) M = .ok (.int (-i)) M := rfl
@[simp] theorem dNeg_eq (a : FE D) : dNeg a ρ M = (a ρ M).bind negV := rfl
@[simp] theorem dCallB_eq (g : Sto → List D → Option D) (fs : FE (List D)) : dCallB g fs ρ M = (fs ρ M).bind fun ds M1 => .ofO (g M1 ds) M1 := rfl
@[simp] theorem dCallF_eq (F : List D → Sto → Res D) (fs : FE (List D)) : dCallF F fs ρ M = (fs ρ M).bind F := rfl
@[simp] theorem dCallK_eq (F : List D → Sto → Res D) (n m : Nat) (ix : List Nat) (fs fk : FE (List D)) : dCallK F n m ix fs fk ρ M = (fs ρ M).bind fun ds M1 => (fk ρ M1).bind fun es M2 => F (gath n m ix ds es) M2 := rfl
@[simp] theorem dIsi_eq (r : Kd → Option Bool) (f : FE D) : dIsi r f ρ M = (f ρ M).bind (kIsi r) := rfl
def catR : Res D → Res D
  | .ok _ M' => .ok .non M'
  | .exc c fs vs M' => .ok (.exc c fs vs) M'
  | .bad => .bad
@[simp] theorem catR_ok (d : D) : catR (.ok d M) = .ok .non M := rfl
@[simp] theorem catR_exc (c : Nat) (fs : List Str) (vs : List D) : catR (.exc c fs vs M) = .ok (.exc c fs vs) M := rfl
@[simp] theorem dCaught_eq (f : FE D) : dCaught f ρ M = catR (f ρ M) := by
  unfold dCaught catR
  cases f ρ M <;> rfl
/-! statements -/
@[simp] theorem sNx_eq : sNx ρ M = .nx ρ M := rfl
@[simp] theorem sBk_eq : sBk ρ M = .bk ρ M := rfl
@[simp] theorem sCt_eq : sCt ρ M = .ct ρ M := rfl
@[simp] theorem sSq_eq (a b : FS) : sSq a b ρ M = (a ρ M).seq b := rfl
@[simp] theorem sEx_eq (f : FE D) : sEx f ρ M = (f ρ M).thn ρ fun _ M1 => .nx ρ M1 := rfl
@[simp] theorem sRt_eq (f : FE D) : sRt f ρ M = (f ρ M).thn ρ fun d M1 => .rt d M1 := rfl
@[simp] theorem sRtN_eq : sRtN ρ M = .rt .non M := rfl
@[simp] theorem sIf_eq (t : FE Bool) (a b : FS) : sIf t a b ρ M = (t ρ M).thn ρ fun c M1 => if c = true then a ρ M1 else b ρ M1 := rfl
@[simp] theorem ofO_so (p : Env × Sto) : Out.ofO (some p) = .nx p.1 p.2 := rfl
@[simp] theorem sAs_eq (f : FE D) (g : FG) : sAs f g ρ M = (f ρ M).thn ρ fun d M1 => Out.ofO (g d ρ M1) := rfl
@[simp] theorem sSet_eq (i : Nat) (f : FE D) : sSet i f ρ M = (f ρ M).thn ρ fun d M1 => .nx (ρ.set i (some d)) M1 := rfl
@[simp] theorem sPar_eq (i j : Nat) (a b : FE D) : sPar i j a b ρ M = (a ρ M).thn ρ fun x M1 => (b ρ M1).thn ρ fun y M2 => .nx ((ρ.set i (some x)).set j (some y)) M2 := rfl
@[simp] theorem sPar3_eq (i j l : Nat) (a b c : FE D) : sPar3 i j l a b c ρ M = (a ρ M).thn ρ fun x M1 => (b ρ M1).thn ρ fun y M2 => (c ρ M2).thn ρ fun z M3 => .nx (((ρ.set i (some x)).set j (some y)).set l (some z)) M3 := rfl
@[simp] theorem sRaise_eq (c : Nat) : sRaise c ρ M = .exc c [] [] ρ M := rfl
@[simp] theorem sFor_eq (m : Nat) (fi : FE IT) (g : FG) (s : FS) : sFor m fi g s ρ M = (fi ρ M).thn ρ fun p M1 => forI g s m p ρ M1 := rfl
@[simp] theorem forI_fix (m : Nat) (g : FG) (s : FS) (ds : List D) : forI g s m (IT.fix ds) ρ M = forD g s ds ρ M := rfl
@[simp] theorem forD_nil (g : FG) (s : FS) : forD g s [] ρ M = .nx ρ M := rfl
theorem forD_cons (g : FG) (s : FS) (d : D) (ds : List D) : forD g s (d :: ds) ρ M = stp g s d ρ M (forD g s ds) := rfl
@[simp] theorem stp_nm (i : Nat) (s : FS) (d : D) (k : Env → Sto → Out) : stp (gNm i) s d ρ M k = (s (ρ.set i (some d)) M).aft k := rfl
@[simp] theorem gNm_eq (i : Nat) (d : D) : gNm i d ρ M = some (ρ.set i (some d), M) := rfl
@[simp] theorem gTp_tup (n : Nat) (gs : FGs) (ds : List D) : gTp n gs (.tup ds) ρ M = if ds.length = n then gs ds ρ M else none := rfl
@[simp] theorem gsNil_eq : gsNil [] ρ M = some (ρ, M) := rfl
@[simp] theorem gsCons_nm (i : Nat) (gs : FGs) (d : D) (ds : List D) : gsCons (gNm i) gs (d :: ds) ρ M = gs ds (ρ.set i (some d)) M := rfl
@[simp] theorem iLst_eq (f : FE D) : iLst f ρ M = (f ρ M).bind kLst := rfl
@[simp] theorem kLst_lst (ds : List D) : kLst (.lst ds) M = .ok (IT.fix ds) M := rfl
@[simp] theorem kLst_flst (ds : List D) : kLst (.flst ds) M = .ok (IT.fix ds) M := rfl
@[simp] theorem iTpl_eq (f : FE D) : iTpl f ρ M = (f ρ M).bind kTpl := rfl
@[simp] theorem kTpl_tup (ds : List D) : kTpl (.tup ds) M = .ok (IT.fix ds) M := rfl
@[simp] theorem iRg1_eq (fs : FE (List D)) : iRg1 fs ρ M = (fs ρ M).bind kRg1 := rfl
theorem kRg1_int {j : Int} (h : small62 j = true) : kRg1 [.int j] M = .ok (IT.fix (intUp 0 j.toNat)) M := if_pos h
@[simp] theorem iRg2_eq (fs : FE (List D)) : iRg2 fs ρ M = (fs ρ M).bind kRg2 := rfl
theorem kRg2_int {i j : Int} (h : (small62 i && small62 j) = true) : kRg2 [.int i, .int j] M = .ok (IT.fix (intUp i (j - i).toNat)) M := if_pos h
theorem small_of {j : Int} (h1 : -(2 ^ 62) ≤ j) (h2 : j < 2 ^ 62) : small62 j = true := by
  unfold small62
  rw [Bool.and_eq_true, decide_eq_true_eq, decide_eq_true_eq]
  exact ⟨h1, h2⟩
@[simp] theorem dMt_own (g : Sto → D → List D → Option (D × Sto)) (fo : FE D) (fs : FE (List D)) : dMt g fo fs ρ M = (fo ρ M).bind fun x M1 => match lstOf M1 x with | some _ => (fs ρ M1).bind fun ds M2 => kMt g x ds M2 | none => .bad := rfl
@[simp] theorem sDP_eq (fo fi fv : FE D) : sDP fo fi fv ρ M = (fv ρ M).thn ρ fun v M1 => (fo ρ M1).thn ρ fun o M2 => (fi ρ M2).thn ρ fun y M3 => kDP ρ v o y M3 := rfl
@[simp] theorem fLc_eq (own : Bool) (fi : FE IT) (T : TgC) (ft : FE Bool) (fe : FE D) (ws : List Nat) : fLc own fi T ft fe ws ρ M = (fi ρ M).bind fun p M1 => kLc own (lcI T ft fe ws ρ p M1) := rfl
@[simp] theorem lcI_fix (T : TgC) (ft : FE Bool) (fe : FE D) (ws : List Nat) (ds : List D) : lcI T ft fe ws ρ (IT.fix ds) M = lcD T ft fe ws ρ ds M := rfl
@[simp] theorem dYes_eq : dYes ρ M = .ok true M := rfl
/-- [f x for x in ds if p x], the store left as it is -/
theorem lcD_map {T : TgC} {ft : FE Bool} {fe : FE D} {ws : List Nat} {p : D → Bool} {f : D → D} : ∀ {ds : List D}, (∀ d ∈ ds, ∃ ρ2, T.d d (wipeE ρ ws) = some ρ2 ∧ ft ρ2 M = .ok (p d) M ∧ (p d = true → fe ρ2 M = .ok (f d) M)) →
    lcD T ft fe ws ρ ds M = .ok ((ds.filter p).map f) M
  | [], _ => rfl
  | d :: ds, h => by
    obtain ⟨ρ2, h1, h2, h3⟩ := h d List.mem_cons_self
    have ih := lcD_map fun e he => h e (List.mem_cons_of_mem _ he)
    show lstp T ft fe ws ρ d M (lcD T ft fe ws ρ ds) = _
    unfold lstp
    rw [h1]
    simp only [h2]
    cases hp : p d with
    | true => simp only [h3 hp, ih, List.filter_cons, hp, if_true, List.map_cons]
    | false => simp only [ih, List.filter_cons, hp, Bool.false_eq_true, if_false]
/-! operators -/
@[simp] theorem gAdd_int (i j : Int) : gAdd M (.int i) (.int j) = some (.int (i + j)) := rfl
@[simp] theorem gSub_int (i j : Int) : gSub M (.int i) (.int j) = some (.int (i - j)) := rfl
theorem gMul_int {i j : Int} (h : i.natAbs.log2 + j.natAbs.log2 < 1000000) : gMul M (.int i) (.int j) = some (.int (i * j)) := if_pos h
theorem gDiv_int {i j : Int} (h : 0 < j) (h2 : j.natAbs.log2 < 9000) : gDiv M (.int i) (.int j) = some (.int (i / j)) := if_pos ⟨h, h2⟩
theorem gMod_int {i j : Int} (h : 0 < j) : gMod M (.int i) (.int j) = some (.int (i % j)) := if_pos h
theorem gPow_int {i j : Int} (h : 0 ≤ j ∧ j ≤ 1000000 ∧ i.natAbs < 2 ^ 64) : gPow M (.int i) (.int j) = some (.int (i ^ j.toNat)) := if_pos h
@[simp] theorem gLt_int (i j : Int) : gLt M (.int i) (.int j) = some (.bl (decide (i < j))) := rfl
@[simp] theorem gLe_int (i j : Int) : gLe M (.int i) (.int j) = some (.bl (decide (i ≤ j))) := rfl
@[simp] theorem gGt_int (i j : Int) : gGt M (.int i) (.int j) = some (.bl (decide (j < i))) := rfl
@[simp] theorem gGe_int (i j : Int) : gGe M (.int i) (.int j) = some (.bl (decide (j ≤ i))) := rfl
theorem log2_lt {n k : Nat} (h : n < 2 ^ k) (hk : 0 < k) : n.log2 < k := by
  by_cases h0 : n = 0
  · subst h0; simpa using hk
  · exact (Nat.log2_lt h0).mpr h
/-! isinstance -/
def isR (o : Option Bool) (M : Sto) : Res D := match o with
  | some b => .ok (.bl b) M
  | none => .bad
@[simp] theorem isR_some (b : Bool) : isR (some b) M = .ok (.bl b) M := rfl
@[simp] theorem kIsi_non (r : Kd → Option Bool) : kIsi r .non M = isR (r .non) M := rfl
@[simp] theorem kIsi_bl (r : Kd → Option Bool) (b : Bool) : kIsi r (.bl b) M = isR (r .bl) M := rfl
@[simp] theorem kIsi_int (r : Kd → Option Bool) (i : Int) : kIsi r (.int i) M = isR (r .int) M := rfl
@[simp] theorem kIsi_str (r : Kd → Option Bool) (x : Str) : kIsi r (.str x) M = isR (r .str) M := rfl
@[simp] theorem kIsi_tup (r : Kd → Option Bool) (x : List D) : kIsi r (.tup x) M = isR (r .tup) M := rfl
@[simp] theorem kIsi_lst (r : Kd → Option Bool) (x : List D) : kIsi r (.lst x) M = isR (r .lst) M := rfl
@[simp] theorem kIsi_flst (r : Kd → Option Bool) (x : List D) : kIsi r (.flst x) M = isR (r .lst) M := rfl
@[simp] theorem kIsi_dic (r : Kd → Option Bool) (k : List Key) (x : List D) : kIsi r (.dic k x) M = isR (r .dic) M := rfl
@[simp] theorem kIsi_exc (r : Kd → Option Bool) (c : Nat) : kIsi r (.exc c [] []) M = isR (r (.exc c)) M := rfl
@[simp] theorem isTy_int_non : isTy "int" .non = some false := by decide +kernel
@[simp] theorem isTy_int_bl : isTy "int" .bl = some true := by decide +kernel
@[simp] theorem isTy_int_int : isTy "int" .int = some true := by decide +kernel
@[simp] theorem isTy_int_str : isTy "int" .str = some false := by decide +kernel
@[simp] theorem isTy_int_tup : isTy "int" .tup = some false := by decide +kernel
@[simp] theorem isTy_int_lst : isTy "int" .lst = some false := by decide +kernel
@[simp] theorem isTy_int_dic : isTy "int" .dic = some false := by decide +kernel
@[simp] theorem isTy_bool_non : isTy "bool" .non = some false := by decide +kernel
@[simp] theorem isTy_bool_bl : isTy "bool" .bl = some true := by decide +kernel
@[simp] theorem isTy_bool_int : isTy "bool" .int = some false := by decide +kernel
@[simp] theorem isTy_bool_str : isTy "bool" .str = some false := by decide +kernel
@[simp] theorem isTy_bool_tup : isTy "bool" .tup = some false := by decide +kernel
@[simp] theorem isTy_bool_lst : isTy "bool" .lst = some false := by decide +kernel
@[simp] theorem isTy_bool_dic : isTy "bool" .dic = some false := by decide +kernel
@[simp] theorem isTy_str_non : isTy "str" .non = some false := by decide +kernel
@[simp] theorem isTy_str_bl : isTy "str" .bl = some false := by decide +kernel
@[simp] theorem isTy_str_int : isTy "str" .int = some false := by decide +kernel
@[simp] theorem isTy_str_str : isTy "str" .str = some true := by decide +kernel
@[simp] theorem isTy_str_tup : isTy "str" .tup = some false := by decide +kernel
@[simp] theorem isTy_str_lst : isTy "str" .lst = some false := by decide +kernel
@[simp] theorem isTy_str_dic : isTy "str" .dic = some false := by decide +kernel
@[simp] theorem isTy_tuple_non : isTy "tuple" .non = some false := by decide +kernel
@[simp] theorem isTy_tuple_bl : isTy "tuple" .bl = some false := by decide +kernel
@[simp] theorem isTy_tuple_int : isTy "tuple" .int = some false := by decide +kernel
@[simp] theorem isTy_tuple_str : isTy "tuple" .str = some false := by decide +kernel
@[simp] theorem isTy_tuple_tup : isTy "tuple" .tup = some true := by decide +kernel
@[simp] theorem isTy_tuple_lst : isTy "tuple" .lst = some false := by decide +kernel
@[simp] theorem isTy_tuple_dic : isTy "tuple" .dic = some false := by decide +kernel
@[simp] theorem isTy_list_non : isTy "list" .non = some false := by decide +kernel
@[simp] theorem isTy_list_bl : isTy "list" .bl = some false := by decide +kernel
@[simp] theorem isTy_list_int : isTy "list" .int = some false := by decide +kernel
@[simp] theorem isTy_list_str : isTy "list" .str = some false := by decide +kernel
@[simp] theorem isTy_list_tup : isTy "list" .tup = some false := by decide +kernel
@[simp] theorem isTy_list_lst : isTy "list" .lst = some true := by decide +kernel
@[simp] theorem isTy_list_dic : isTy "list" .dic = some false := by decide +kernel
@[simp] theorem isTy_dict_non : isTy "dict" .non = some false := by decide +kernel
@[simp] theorem isTy_dict_bl : isTy "dict" .bl = some false := by decide +kernel
@[simp] theorem isTy_dict_int : isTy "dict" .int = some false := by decide +kernel
@[simp] theorem isTy_dict_str : isTy "dict" .str = some false := by decide +kernel
@[simp] theorem isTy_dict_tup : isTy "dict" .tup = some false := by decide +kernel
@[simp] theorem isTy_dict_lst : isTy "dict" .lst = some false := by decide +kernel
@[simp] theorem isTy_dict_dic : isTy "dict" .dic = some true := by decide +kernel
/-! subscripts, lengths, equality -/
theorem ixN_nn {n : Nat} {i : Int} (h0 : 0 ≤ i) (h : i < n) : ixN n i = some i.toNat := by
  unfold ixN
  simp [h0, h]
  try omega
@[simp] theorem gEq_int (i j : Int) : gEqB false M (.int i) (.int j) = some (.bl (decide (i = j))) := rfl
@[simp] theorem gNe_int (i j : Int) : gEqB true M (.int i) (.int j) = some (.bl (!decide (i = j))) := rfl
@[simp] theorem gEq_str (i j : Str) : gEqB false M (.str i) (.str j) = some (.bl (decide (i = j))) := rfl
@[simp] theorem gNe_str (i j : Str) : gEqB true M (.str i) (.str j) = some (.bl (!decide (i = j))) := rfl
@[simp] theorem gEq_pr (a b c d : Int) : gEqB false M (.tup [.int a, .int b]) (.tup [.int c, .int d]) = some (.bl (decide (a = c) && decide (b = d))) := by
  have h : gEqB false M (.tup [.int a, .int b]) (.tup [.int c, .int d]) = some (.bl ((a == c) && ((b == d) && true))) := by simp [gEqB, flatEq, toPy, toPys, SeqAt.shaped, PyData.canLay0, PyData.canLayAll0, PyData.depth, PyData.depthAll, PyData.eqv, PyData.eqvAll]
  rw [h, Bool.and_true]
  rfl
theorem toPysF_int : ∀ l : List Int, toPysF (l.map D.int) = some (l.map PyData.int)
  | [] => rfl
  | i :: l => by
    show (match toPyF (D.int i), toPysF (l.map D.int) with | some d, some ds => some (d :: ds) | _, _ => none) = _
    rw [toPysF_int l]
    rfl
theorem toPys_int : ∀ l : List Int, toPys M (l.map D.int) = some (l.map PyData.int)
  | [] => rfl
  | i :: l => by
    show (match toPy M (D.int i), toPys M (l.map D.int) with | some d, some ds => some (d :: ds) | _, _ => none) = _
    rw [toPys_int l]
    rfl
theorem canLay_int : ∀ l : List Int, PyData.canLayAll0 (l.map PyData.int) = true
  | [] => rfl
  | i :: l => by simp [PyData.canLayAll0, PyData.canLay0, canLay_int l]
theorem depth_int : ∀ l : List Int, PyData.depthAll (l.map PyData.int) = 0
  | [] => rfl
  | i :: l => by simp [PyData.depthAll, PyData.depth, depth_int l]
theorem shaped_int (l : List Int) : SeqAt.shaped (.list (l.map PyData.int)) = true := by simp [SeqAt.shaped, PyData.canLay0, canLay_int, PyData.depth, depth_int]
/-- a changing list of ints != [] -/
theorem gNe_own {n : Nat} {l : List Int} (h : M[n]? = some (.lst (l.map D.int))) : gEqB true M (.own n) (.lst []) = some (.bl (!decide (l = []))) := by
  have h1 : toPy M (.own n) = some (.list (l.map PyData.int)) := by
    show (match M[n]? with | some (.lst xs) => (toPysF xs).map PyData.list | _ => none) = _
    rw [h]
    show (toPysF (l.map D.int)).map PyData.list = _
    rw [toPysF_int]
    rfl
  have h2 : toPy M (.lst []) = some (.list []) := rfl
  show (match toPy M (.own n), toPy M (.lst []) with
    | some d, some e => if SeqAt.shaped d = true ∧ SeqAt.shaped e = true then some (D.bl (if true then !PyData.eqv d e else PyData.eqv d e)) else none
    | _, _ => none) = _
  rw [h1, h2]
  have h3 : SeqAt.shaped (.list []) = true := shaped_int []
  simp only [shaped_int, h3, and_self, if_true]
  cases l with
  | nil => rfl
  | cons i l => simp [PyData.eqv, PyData.eqvAll]
/-! repr -/
theorem gRepr_ok {x : D} {d : PyData} (h : toPy M x = some d) (h1 : d.showable = true) (h2 : d.hasDict = false) (h3 : d.depth ≤ 60) (h4 : d.shown.length ≤ sizeLine) : gRepr M [x] = some (.str d.shown) := by
  show (match toPy M x with
    | some d => if d.showable = true ∧ d.hasDict = false ∧ d.depth ≤ 60 ∧ d.shown.length ≤ sizeLine then some (D.str d.shown) else none
    | none => none) = _
  rw [h]
  exact if_pos ⟨h1, h2, h3, h4⟩
theorem repr_non : gRepr M [.non] = some (.str "None") := by
  refine (gRepr_ok (d := .none) rfl rfl rfl (by decide) ?_).trans rfl
  rw [PyData.shown_none, sizeLine_eq]
  decide
theorem repr_int {i : Int} (h : i.natAbs.log2 < 1920) : gRepr M [.int i] = some (.str (toString i)) := by
  refine (gRepr_ok (d := .int i) rfl (by simp [PyData.showable, h]) rfl (by simp [PyData.depth]) ?_).trans (by rw [PyData.shown_int])
  rw [PyData.shown_int]
  exact int_text_fits h
theorem repr_pr {i j : Int} (h : i.natAbs.log2 < 1920) (h' : j.natAbs.log2 < 1920) : ∃ s, gRepr M [.tup [.int i, .int j]] = some (.str s) := by
  refine ⟨_, gRepr_ok (d := .tuple [.int i, .int j]) rfl (by simp [PyData.showable, PyData.showableAll, h, h']) rfl (by simp [PyData.depth, PyData.depthAll]) ?_⟩
  have l1 := PyProof.Rows.int_text_len_1921 h
  have l2 := PyProof.Rows.int_text_len_1921 h'
  rw [PyData.shown_tuple]
  have e : PyData.shownAll [.int i, .int j] = [((toString i : String) : Str), ((toString j : String) : Str)] := PyData.shownAll_ints [i, j]
  rw [e]
  have ej : Str.join ", " [((toString i : String) : Str), ((toString j : String) : Str)] = ((toString i : String) : Str) ++ ", " ++ ((toString j : String) : Str) := rfl
  rw [ej, sizeLine_eq]
  have la : ∀ a b : Str, (a ++ b).length = a.length + b.length := fun a b => Array.size_append
  simp only [la]
  have c1 : (("(" : Str)).length = 1 := by decide
  have c2 : ((", " : Str)).length = 2 := by decide
  have c3 : (((if ([PyData.int i, PyData.int j].length == 1) = true then ",)" else ")" : String) : Str)).length = 1 := by rfl
  omega
end
end DL
set_option maxHeartbeats 4000000
namespace K17
open PySem PySem.Spec PyProof.Rows L2 LamX DL
/-! ### the text by places -/
def top (i : Nat) : Stmt := PySem.Challenge.pw_hitclocks_k17_prices.main.body.getD i (.Pass ⟨0, 0, 0, 0⟩)
abbrev s8 : Stmt := top 8
abbrev s10 : Stmt := top 10
abbrev s11 : Stmt := top 11
abbrev s12 : Stmt := top 12
abbrev s13 : Stmt := top 13
abbrev s14 : Stmt := top 14
abbrev s15 : Stmt := top 15
abbrev s16 : Stmt := top 16
abbrev s17 : Stmt := top 17
abbrev s18 : Stmt := top 18
abbrev s19 : Stmt := top 19
abbrev s20 : Stmt := top 20
abbrev s21 : Stmt := top 21
abbrev s22 : Stmt := top 22
abbrev s23 : Stmt := top 23
abbrev s25 : Stmt := top 25
abbrev s26 : Stmt := top 26
abbrev s27 : Stmt := top 27
abbrev s28 : Stmt := top 28
abbrev s29 : Stmt := top 29
abbrev s30 : Stmt := top 30
abbrev s31 : Stmt := top 31
abbrev s32 : Stmt := top 32
abbrev s33 : Stmt := top 33
abbrev s34 : Stmt := top 34
abbrev s35 : Stmt := top 35
abbrev s36 : Stmt := top 36
abbrev s37 : Stmt := top 37
abbrev s38 : Stmt := top 38
abbrev s39 : Stmt := top 39
abbrev s40 : Stmt := top 40
abbrev s41 : Stmt := top 41
abbrev s42 : Stmt := top 42
abbrev s43 : Stmt := top 43
abbrev s44 : Stmt := top 44
abbrev s45 : Stmt := top 45
abbrev s46 : Stmt := top 46
abbrev s47 : Stmt := top 47
abbrev s48 : Stmt := top 48
/-! ### isinstance of the own errors -/
def ic_BadPrice : Kd → Option Bool
  | .non => some false
  | .exc 0 => some false
  | .exc 1 => some true
  | .exc 2 => some false
  | .exc 3 => some false
  | .exc 4 => some false
  | _ => none
def ic_BadNumber : Kd → Option Bool
  | .non => some false
  | .exc 0 => some false
  | .exc 1 => some false
  | .exc 2 => some true
  | .exc 3 => some false
  | .exc 4 => some false
  | _ => none
def ic_BadPair : Kd → Option Bool
  | .non => some false
  | .exc 0 => some false
  | .exc 1 => some false
  | .exc 2 => some false
  | .exc 3 => some true
  | .exc 4 => some false
  | _ => none
def ic_NotAhead : Kd → Option Bool
  | .non => some false
  | .exc 0 => some false
  | .exc 1 => some false
  | .exc 2 => some false
  | .exc 3 => some false
  | .exc 4 => some true
  | _ => none
/-! ### what the defs come to -/
def b_is_number : FS := sRt (dAndV (dIsi (isTy "int") (dVar 0)) (dNotV (dIsi (isTy "bool") (dVar 0))))
def F_is_number : List D → Sto → Res D := fnD 1 b_is_number
def b_is_pair : FS := sRt (dAndV (dIsi (isTy "tuple") (dVar 0)) (dAndV (dBin gEq (dCallB gLen (dCons (dVar 0) (dNil))) (dC (.int 2))) (dAndV (dCallF F_is_number (dCons (dBin gIx (dVar 0) (dC (.int 0))) (dNil))) (dCallF F_is_number (dCons (dBin gIx (dVar 0) (dC (.int 1))) (dNil))))))
def F_is_pair : List D → Sto → Res D := fnD 1 b_is_pair
def b_is_price : FS := sRt (dAndV (dCallF F_is_pair (dCons (dVar 0) (dNil))) (dAndV (dBin gGe (dBin gIx (dVar 0) (dC (.int 0))) (dC (.int 0))) (dAndV (dBin gGe (dBin gIx (dVar 0) (dC (.int 1))) (dC (.int 0))) (dBin gEq (dCallB gGcd (dCons (dBin gIx (dVar 0) (dC (.int 0))) (dCons (dBin gIx (dVar 0) (dC (.int 1))) (dNil)))) (dC (.int 1))))))
def F_is_price : List D → Sto → Res D := fnD 1 b_is_price
def b_need_pair : FS := sIf (dNot (dTst (dCallF F_is_pair (dCons (dVar 0) (dNil))))) (sRaise 3) (sNx)
def F_need_pair : List D → Sto → Res D := fnD 1 b_need_pair
def b_need_price : FS := sIf (dNot (dTst (dCallF F_is_price (dCons (dVar 0) (dNil))))) (sRaise 1) (sNx)
def F_need_price : List D → Sto → Res D := fnD 1 b_need_price
def b_least_terms : FS := sSq (sSet 2 (dCallB gGcd (dCons (dVar 0) (dCons (dVar 1) (dNil))))) (sRt (dTup (dCons (dBin gDiv (dVar 0) (dVar 2)) (dCons (dBin gDiv (dVar 1) (dVar 2)) (dNil)))))
def F_least_terms : List D → Sto → Res D := fnD 3 b_least_terms
def b_price_of : FS := sSq (sIf (dOr (dNot (dTst (dCallF F_is_number (dCons (dVar 0) (dNil))))) (dOr (dNot (dTst (dCallF F_is_number (dCons (dVar 1) (dNil))))) (dOr (dTst (dBin gLt (dVar 0) (dC (.int 0)))) (dOr (dTst (dBin gLt (dVar 1) (dC (.int 0)))) (dTst (dBin gEq (dTup (dCons (dVar 0) (dCons (dVar 1) (dNil)))) (dTup (dCons (dC (.int 0)) (dCons (dC (.int 0)) (dNil)))))))))) (sRaise 2) (sNx)) (sRt (dCallF F_least_terms (dCons (dVar 0) (dCons (dVar 1) (dNil)))))
def F_price_of : List D → Sto → Res D := fnD 2 b_price_of
def b_leads : FS := sRt (dBin gGt (dBin gMul (dBin gIx (dVar 0) (dC (.int 0))) (dBin gIx (dVar 1) (dC (.int 1)))) (dBin gMul (dBin gIx (dVar 1) (dC (.int 0))) (dBin gIx (dVar 0) (dC (.int 1)))))
def F_leads : List D → Sto → Res D := fnD 2 b_leads
def b_is_ahead : FS := sSq (sEx (dCallF F_need_price (dCons (dVar 0) (dNil)))) (sSq (sEx (dCallF F_need_price (dCons (dVar 1) (dNil)))) (sRt (dCallF F_leads (dCons (dVar 0) (dCons (dVar 1) (dNil))))))
def F_is_ahead : List D → Sto → Res D := fnD 2 b_is_ahead
def b_weight : FS := sRt (dBin gAdd (dBin gMul (dBin gIx (dVar 1) (dC (.int 0))) (dBin gIx (dVar 0) (dC (.int 0)))) (dBin gMul (dBin gIx (dVar 1) (dC (.int 1))) (dBin gIx (dVar 0) (dC (.int 1)))))
def F_weight : List D → Sto → Res D := fnD 2 b_weight
def b_worth : FS := sSq (sEx (dCallF F_need_pair (dCons (dVar 0) (dNil)))) (sSq (sEx (dCallF F_need_price (dCons (dVar 1) (dNil)))) (sRt (dCallF F_weight (dCons (dVar 0) (dCons (dVar 1) (dNil))))))
def F_worth : List D → Sto → Res D := fnD 2 b_worth
def b_between : FS := sRt (dCallF F_least_terms (dCons (dBin gAdd (dBin gIx (dVar 0) (dC (.int 0))) (dBin gIx (dVar 1) (dC (.int 0)))) (dCons (dBin gAdd (dBin gIx (dVar 0) (dC (.int 1))) (dBin gIx (dVar 1) (dC (.int 1)))) (dNil))))
def F_between : List D → Sto → Res D := fnD 2 b_between
def b_amid : FS := sSq (sIf (dNot (dTst (dCallF F_is_ahead (dCons (dVar 0) (dCons (dVar 1) (dNil)))))) (sRaise 4) (sNx)) (sRt (dCallF F_between (dCons (dVar 0) (dCons (dVar 1) (dNil)))))
def F_amid : List D → Sto → Res D := fnD 2 b_amid
def b_alike_at : FS := sSq (sPar 2 3 (dBin gSub (dBin gIx (dVar 0) (dC (.int 0))) (dBin gIx (dVar 1) (dC (.int 0)))) (dBin gSub (dBin gIx (dVar 1) (dC (.int 1))) (dBin gIx (dVar 0) (dC (.int 1))))) (sSq (sIf (dOr (dTst (dBin gEq (dTup (dCons (dVar 2) (dCons (dVar 3) (dNil)))) (dTup (dCons (dC (.int 0)) (dCons (dC (.int 0)) (dNil)))))) (dTst (dBin gLt (dBin gMul (dVar 2) (dVar 3)) (dC (.int 0))))) (sRt (dC .non)) (sNx)) (sRt (dCallF F_least_terms (dCons (dCallB gAbs (dCons (dVar 3) (dNil))) (dCons (dCallB gAbs (dCons (dVar 2) (dNil))) (dNil))))))
def F_alike_at : List D → Sto → Res D := fnD 4 b_alike_at
def b_meeting : FS := sSq (sEx (dCallF F_need_pair (dCons (dVar 0) (dNil)))) (sSq (sEx (dCallF F_need_pair (dCons (dVar 1) (dNil)))) (sRt (dCallF F_alike_at (dCons (dVar 0) (dCons (dVar 1) (dNil))))))
def F_meeting : List D → Sto → Res D := fnD 2 b_meeting
def b__law_begun : FS := sSq (sSet 1 (fLc true (iLst (dVar 0)) (.one 2) (dTst (dBin gGe (dCallB gAbs (dCons (dVar 2) (dNil))) (dBin gPow (dC (.int 10)) (dC (.int 18))))) (dBin gSub (dCallB gAbs (dCons (dVar 2) (dNil))) (dBin gPow (dC (.int 10)) (dC (.int 18)))) [2])) (sRt (dDisp true [(dC (.str ("great" : Str)), dVar 1), (dC (.str ("cells" : Str)), fLc false (iLst (dVar 0)) (.one 2) (dYes) (dBin gMod (dCallB gInt1 (dCons (dCallB gAbs (dCons (dVar 2) (dNil))) (dNil))) (dC (.int 2147483629))) [2]), (dC (.str ("left" : Str)), dC (.int 0)), (dC (.str ("turn" : Str)), dC (.int 0))]))
def F__law_begun : List D → Sto → Res D := fnD 3 b__law_begun
def b__law_mixed : FS := sSq (sPar 1 2 (dBin gAdd (dBin gDGet (dVar 0) (dC (.str ("turn" : Str)))) (dC (.int 1))) (dC (.int 0))) (sSq (sDP (dVar 0) (dC (.str ("turn" : Str))) (dVar 1)) (sSq (sFor 4000 (iLst (dLst (dCons (dC (.int 2147483647)) (dCons (dC (.int 2147483629)) (dCons (dC (.int 2147483587)) (dCons (dC (.int 2147483579)) (dNil))))))) (gNm 3) (sSq (sSet 4 (dBin gAdd (dBin gMul (dC (.int 48271)) (dVar 1)) (dBin gDiv (dVar 3) (dC (.int 37))))) (sSq (sFor 4000 (iLst (dBin gDGet (dVar 0) (dC (.str ("cells" : Str))))) (gNm 5) (sSet 4 (dBin gMod (dCallB gInt1 (dCons (dBin gAdd (dBin gAdd (dBin gMul (dVar 4) (dC (.int 69621))) (dVar 5)) (dVar 1)) (dNil))) (dVar 3)))) (sSet 2 (dBin gAdd (dBin gMul (dVar 2) (dC (.int 2147483647))) (dBin gMod (dCallB gInt1 (dCons (dBin gPow (dVar 4) (dC (.int 5))) (dNil))) (dVar 3))))))) (sRt (dVar 2))))
def F__law_mixed : List D → Sto → Res D := fnD 6 b__law_mixed
def b__law_take : FS := sSq (sIf (dTst (dBin gEq (dBin gDGet (dVar 0) (dC (.str ("left" : Str)))) (dC (.int 0)))) (sDP (dVar 0) (dC (.str ("left" : Str))) (dIf (dTst (dBin gNe (dBin gDGet (dVar 0) (dC (.str ("great" : Str)))) (dLst (dNil)))) (dMt gPopAt (dBin gDGet (dVar 0) (dC (.str ("great" : Str)))) (dCons (dC (.int 0)) (dNil))) (dCallF F__law_mixed (dCons (dVar 0) (dNil))))) (sNx)) (sSq (sSet 2 (dBin gMod (dCallB gInt1 (dCons (dBin gDGet (dVar 0) (dC (.str ("left" : Str)))) (dNil))) (dVar 1))) (sSq (sDP (dVar 0) (dC (.str ("left" : Str))) (dBin gDiv (dBin gDGet (dVar 0) (dC (.str ("left" : Str)))) (dVar 1))) (sRt (dVar 2))))
def F__law_take : List D → Sto → Res D := fnD 3 b__law_take
def b__law_pick : FS := sRt (dBin gIx (dVar 1) (dCallF F__law_take (dCons (dVar 0) (dCons (dCallB gLen (dCons (dVar 1) (dNil))) (dNil)))))
def F__law_pick : List D → Sto → Res D := fnD 2 b__law_pick
def b__law_is_number : FS := sRt (dAndV (dIsi (isTy "int") (dVar 0)) (dNotV (dIsi (isTy "bool") (dVar 0))))
def F__law_is_number : List D → Sto → Res D := fnD 1 b__law_is_number
def b__law_says : FS := sRt (dIf (dTst (dVar 1)) (dBin gIs (dVar 0) (dC (.bl true))) (dBin gIs (dVar 0) (dC (.bl false))))
def F__law_says : List D → Sto → Res D := fnD 2 b__law_says
def b__law_gcd : FS := sSq (sFor 4000 (iRg1 (dCons (dC (.int 3000)) (dNil))) (gNm 2) (sSq (sIf (dTst (dBin gEq (dVar 1) (dC (.int 0)))) (sRt (dVar 0)) (sNx)) (sPar 0 1 (dVar 1) (dBin gMod (dCallB gInt1 (dCons (dVar 0) (dNil))) (dVar 1))))) (sRt (dVar 0))
def F__law_gcd : List D → Sto → Res D := fnD 3 b__law_gcd
def b__law_terms : FS := sSq (sSet 2 (dCallF F__law_gcd (dCons (dVar 0) (dCons (dVar 1) (dNil))))) (sRt (dTup (dCons (dBin gDiv (dVar 0) (dVar 2)) (dCons (dBin gDiv (dVar 1) (dVar 2)) (dNil)))))
def F__law_terms : List D → Sto → Res D := fnD 3 b__law_terms
def b__law_leads : FS := sRt (dBin gGt (dBin gMul (dBin gIx (dVar 0) (dC (.int 0))) (dBin gIx (dVar 1) (dC (.int 1)))) (dBin gMul (dBin gIx (dVar 1) (dC (.int 0))) (dBin gIx (dVar 0) (dC (.int 1)))))
def F__law_leads : List D → Sto → Res D := fnD 2 b__law_leads
def b__law_is_pair : FS := sRt (dAndV (dIsi (isTy "tuple") (dVar 0)) (dAndV (dBin gEq (dCallB gLen (dCons (dVar 0) (dNil))) (dC (.int 2))) (dAndV (dCallF F__law_is_number (dCons (dBin gIx (dVar 0) (dC (.int 0))) (dNil))) (dCallF F__law_is_number (dCons (dBin gIx (dVar 0) (dC (.int 1))) (dNil))))))
def F__law_is_pair : List D → Sto → Res D := fnD 1 b__law_is_pair
def b__law_is_price : FS := sRt (dAndV (dCallF F__law_is_pair (dCons (dVar 0) (dNil))) (dAndV (dBin gGe (dBin gIx (dVar 0) (dC (.int 0))) (dC (.int 0))) (dAndV (dBin gGe (dBin gIx (dVar 0) (dC (.int 1))) (dC (.int 0))) (dBin gEq (dCallF F__law_gcd (dCons (dBin gIx (dVar 0) (dC (.int 0))) (dCons (dBin gIx (dVar 0) (dC (.int 1))) (dNil)))) (dC (.int 1))))))
def F__law_is_price : List D → Sto → Res D := fnD 1 b__law_is_price
def b__law_worth : FS := sRt (dBin gAdd (dBin gMul (dBin gIx (dVar 1) (dC (.int 0))) (dBin gIx (dVar 0) (dC (.int 0)))) (dBin gMul (dBin gIx (dVar 1) (dC (.int 1))) (dBin gIx (dVar 0) (dC (.int 1)))))
def F__law_worth : List D → Sto → Res D := fnD 2 b__law_worth
def b__law_meet : FS := sSq (sPar 2 3 (dBin gSub (dBin gIx (dVar 0) (dC (.int 0))) (dBin gIx (dVar 1) (dC (.int 0)))) (dBin gSub (dBin gIx (dVar 1) (dC (.int 1))) (dBin gIx (dVar 0) (dC (.int 1))))) (sSq (sIf (dOr (dTst (dBin gLt (dVar 2) (dC (.int 0)))) (dTst (dBin gLt (dVar 3) (dC (.int 0))))) (sPar 2 3 (dBin gSub (dC (.int 0)) (dVar 2)) (dBin gSub (dC (.int 0)) (dVar 3))) (sNx)) (sRt (dIf (dOr (dTst (dBin gLt (dVar 2) (dC (.int 0)))) (dOr (dTst (dBin gLt (dVar 3) (dC (.int 0)))) (dTst (dBin gEq (dBin gAdd (dVar 2) (dVar 3)) (dC (.int 0)))))) (dC .non) (dCallF F__law_terms (dCons (dVar 3) (dCons (dVar 2) (dNil)))))))
def F__law_meet : List D → Sto → Res D := fnD 4 b__law_meet
def b__law_amount : FS := sSq (sSet 1 (dCallF F__law_take (dCons (dVar 0) (dCons (dC (.int 4)) (dNil))))) (sSq (sIf (dTst (dBin gEq (dVar 1) (dC (.int 0)))) (sRt (dCallF F__law_take (dCons (dVar 0) (dCons (dC (.int 3)) (dNil))))) (sNx)) (sRt (dIf (dTst (dBin gLt (dVar 1) (dC (.int 3)))) (dCallF F__law_take (dCons (dVar 0) (dCons (dC (.int 10)) (dNil)))) (dCallF F__law_take (dCons (dVar 0) (dCons (dBin gPow (dC (.int 10)) (dC (.int 12))) (dNil)))))))
def F__law_amount : List D → Sto → Res D := fnD 2 b__law_amount
def b__law_spot : FS := sSq (sSet 1 (dCallF F__law_take (dCons (dVar 0) (dCons (dC (.int 8)) (dNil))))) (sSq (sIf (dTst (dBin gLt (dVar 1) (dC (.int 2)))) (sRt (dBin gIx (dLst (dCons (dTup (dCons (dC (.int 1)) (dCons (dC (.int 0)) (dNil)))) (dCons (dTup (dCons (dC (.int 0)) (dCons (dC (.int 1)) (dNil)))) (dNil)))) (dVar 1))) (sNx)) (sSq (sPar 2 3 (dCallF F__law_take (dCons (dVar 0) (dCons (dC (.int 6)) (dNil)))) (dCallF F__law_take (dCons (dVar 0) (dCons (dC (.int 6)) (dNil))))) (sSq (sIf (dTst (dBin gEq (dVar 1) (dC (.int 7)))) (sPar 2 3 (dCallF F__law_take (dCons (dVar 0) (dCons (dBin gPow (dC (.int 10)) (dC (.int 11))) (dNil)))) (dCallF F__law_take (dCons (dVar 0) (dCons (dBin gPow (dC (.int 10)) (dC (.int 11))) (dNil))))) (sNx)) (sRt (dIf (dTst (dBin gEq (dBin gAdd (dVar 2) (dVar 3)) (dC (.int 0)))) (dTup (dCons (dC (.int 1)) (dCons (dC (.int 1)) (dNil)))) (dCallF F__law_terms (dCons (dVar 2) (dCons (dVar 3) (dNil)))))))))
def F__law_spot : List D → Sto → Res D := fnD 4 b__law_spot
def b__law_pair : FS := sRt (dTup (dCons (dBin gSub (dCallF F__law_take (dCons (dVar 0) (dCons (dBin gAdd (dBin gMul (dC (.int 2)) (dVar 1)) (dC (.int 1))) (dNil)))) (dVar 1)) (dCons (dBin gSub (dCallF F__law_take (dCons (dVar 0) (dCons (dBin gAdd (dBin gMul (dC (.int 2)) (dVar 1)) (dC (.int 1))) (dNil)))) (dVar 1)) (dNil))))
def F__law_pair : List D → Sto → Res D := fnD 2 b__law_pair
def b__law_peak : FS := sRt (dCallF F__law_pick (dCons (dVar 0) (dCons (dLst (dCons (dC (.int 1)) (dCons (dC (.int 2)) (dCons (dC (.int 3)) (dCons (dC (.int 3)) (dCons (dC (.int 9)) (dCons (dBin gSub (dBin gPow (dC (.int 10)) (dC (.int 11))) (dC (.int 1))) (dNil)))))))) (dNil))))
def F__law_peak : List D → Sto → Res D := fnD 1 b__law_peak
def b__law_same : FS := sRt (dBin gEq (dCallB gRepr (dCons (dVar 0) (dNil))) (dCallB gRepr (dCons (dVar 1) (dNil))))
def F__law_same : List D → Sto → Res D := fnD 2 b__law_same
def b__law_strange : FS := sSq (sSet 1 (dLst (dCons (dC .non) (dCons (dC (.bl true)) (dCons (dC (.int 1)) (dCons (dC (.str ("over" : Str))) (dCons (dLst (dCons (dC (.int 1)) (dCons (dC (.int 0)) (dNil)))) (dCons (dTup (dCons (dC (.int 1)) (dNil))) (dCons (dTup (dCons (dC (.int 1)) (dCons (dC (.int 0)) (dCons (dC (.int 0)) (dNil))))) (dCons (dTup (dCons (dC (.bl true)) (dCons (dC (.int 0)) (dNil)))) (dCons (dTup (dCons (dC (.int 1)) (dCons (dC (.bl false)) (dNil)))) (dCons (dTup (dCons (dC (.str ("1" : Str))) (dCons (dC (.int 0)) (dNil)))) (dCons (dTup (dCons (dC (.int 1)) (dCons (dC .non) (dNil)))) (dCons (dNew false) (dCons (dTup (dCons (dTup (dCons (dC (.int 1)) (dCons (dC (.int 0)) (dNil)))) (dCons (dC (.int 0)) (dNil)))) (dCons (dTup (dNil)) (dNil))))))))))))))))) (sRt (dCallF F__law_pick (dCons (dVar 0) (dCons (dVar 1) (dNil)))))
def F__law_strange : List D → Sto → Res D := fnD 2 b__law_strange
def b__law_no_price : FS := sSq (sPar 1 2 (dBin gAdd (dC (.int 1)) (dCallF F__law_take (dCons (dVar 0) (dCons (dC (.int 9)) (dNil))))) (dBin gAdd (dC (.int 1)) (dCallF F__law_take (dCons (dVar 0) (dCons (dC (.int 9)) (dNil)))))) (sSq (sSet 3 (dBin gAdd (dC (.int 2)) (dCallF F__law_take (dCons (dVar 0) (dCons (dC (.int 5)) (dNil)))))) (sSq (sSet 4 (dLst (dCons (dTup (dCons (dC (.int 0)) (dCons (dC (.int 0)) (dNil)))) (dCons (dTup (dCons (dBin gSub (dC (.int 0)) (dVar 1)) (dCons (dVar 2) (dNil)))) (dCons (dTup (dCons (dVar 1) (dCons (dBin gSub (dC (.int 0)) (dVar 2)) (dNil)))) (dCons (dTup (dCons (dBin gMul (dVar 3) (dVar 1)) (dCons (dBin gMul (dVar 3) (dVar 2)) (dNil)))) (dCons (dTup (dCons (dVar 3) (dCons (dC (.int 0)) (dNil)))) (dCons (dTup (dCons (dC (.int 0)) (dCons (dVar 3) (dNil)))) (dCons (dTup (dCons (dNeg (dC (.int 1))) (dCons (dC (.int 0)) (dNil)))) (dCons (dCallF F__law_strange (dCons (dVar 0) (dNil))) (dNil))))))))))) (sRt (dCallF F__law_pick (dCons (dVar 0) (dCons (dVar 4) (dNil)))))))
def F__law_no_price : List D → Sto → Res D := fnD 5 b__law_no_price
def b__law_refused : FS := sSq (sAs (dTup (dCons (dCallF F__law_no_price (dCons (dVar 0) (dNil))) (dCons (dCallF F__law_strange (dCons (dVar 0) (dNil))) (dNil)))) (gTp 2 (gsCons (gNm 3) (gsCons (gNm 5) (gsNil))))) (sSq (sIf (dNot (dTst (dIsi ic_BadPair (dCaught (dCallF F_worth (dCons (dVar 5) (dCons (dVar 3) (dNil)))))))) (sRt (dC (.bl false))) (sNx)) (sSq (sIf (dNot (dTst (dIsi ic_BadPrice (dCaught (dCallF F_worth (dCons (dVar 1) (dCons (dVar 3) (dNil)))))))) (sRt (dC (.bl false))) (sNx)) (sSq (sIf (dNot (dTst (dIsi ic_BadPrice (dCaught (dCallF F_is_ahead (dCons (dVar 3) (dCons (dVar 2) (dNil)))))))) (sRt (dC (.bl false))) (sNx)) (sSq (sIf (dNot (dTst (dIsi ic_BadPrice (dCaught (dCallF F_is_ahead (dCons (dVar 2) (dCons (dVar 3) (dNil)))))))) (sRt (dC (.bl false))) (sNx)) (sSq (sIf (dNot (dTst (dIsi ic_BadPrice (dCaught (dCallF F_amid (dCons (dVar 3) (dCons (dVar 2) (dNil)))))))) (sRt (dC (.bl false))) (sNx)) (sSq (sIf (dNot (dTst (dIsi ic_BadPrice (dCaught (dCallF F_amid (dCons (dVar 2) (dCons (dVar 3) (dNil)))))))) (sRt (dC (.bl false))) (sNx)) (sSq (sIf (dNot (dTst (dIsi ic_BadPair (dCaught (dCallF F_meeting (dCons (dVar 5) (dCons (dVar 1) (dNil)))))))) (sRt (dC (.bl false))) (sNx)) (sSq (sIf (dNot (dTst (dIsi ic_BadPair (dCaught (dCallF F_meeting (dCons (dVar 1) (dCons (dVar 5) (dNil)))))))) (sRt (dC (.bl false))) (sNx)) (sSq (sSet 4 (dCallF F__law_pick (dCons (dVar 0) (dCons (dLst (dCons (dC .non) (dCons (dC (.bl true)) (dCons (dC (.bl false)) (dCons (dC (.str ("1" : Str))) (dCons (dTup (dCons (dC (.int 1)) (dNil))) (dCons (dLst (dCons (dC (.int 1)) (dNil))) (dCons (dNeg (dC (.int 1))) (dCons (dBin gSub (dBin gSub (dC (.int 0)) (dC (.int 1))) (dCallF F__law_take (dCons (dVar 0) (dCons (dBin gPow (dC (.int 10)) (dC (.int 11))) (dNil))))) (dNil)))))))))) (dNil))))) (sSq (sIf (dNot (dTst (dIsi ic_BadNumber (dCaught (dCallF F_price_of (dCons (dVar 4) (dCons (dC (.int 1)) (dNil)))))))) (sRt (dC (.bl false))) (sNx)) (sSq (sIf (dNot (dTst (dIsi ic_BadNumber (dCaught (dCallF F_price_of (dCons (dC (.int 1)) (dCons (dVar 4) (dNil)))))))) (sRt (dC (.bl false))) (sNx)) (sRt (dIsi ic_BadNumber (dCaught (dCallF F_price_of (dCons (dC (.int 0)) (dCons (dC (.int 0)) (dNil))))))))))))))))))
def F__law_refused : List D → Sto → Res D := fnD 6 b__law_refused
def b__law_ordered : FS := sSq (sIf (dOr (dNot (dTst (dCallF F__law_says (dCons (dCallF F_is_ahead (dCons (dVar 0) (dCons (dVar 1) (dNil)))) (dCons (dCallF F__law_leads (dCons (dVar 0) (dCons (dVar 1) (dNil)))) (dNil)))))) (dNot (dTst (dCallF F__law_says (dCons (dCallK F_is_ahead 0 2 [1, 0] dNil (dCons (dVar 0) (dCons (dVar 1) (dNil)))) (dCons (dCallF F__law_leads (dCons (dVar 1) (dCons (dVar 0) (dNil)))) (dNil))))))) (sRt (dC (.bl false))) (sNx)) (sSq (sIf (dNot (dTst (dCallF F__law_leads (dCons (dVar 0) (dCons (dVar 1) (dNil)))))) (sRt (dIsi ic_NotAhead (dCaught (dCallF F_amid (dCons (dVar 0) (dCons (dVar 1) (dNil))))))) (sNx)) (sSq (sSet 2 (dCallF F_amid (dCons (dVar 0) (dCons (dVar 1) (dNil))))) (sSq (sIf (dNot (dTst (dCallF F__law_same (dCons (dVar 2) (dCons (dCallF F__law_terms (dCons (dBin gAdd (dBin gIx (dVar 0) (dC (.int 0))) (dBin gIx (dVar 1) (dC (.int 0)))) (dCons (dBin gAdd (dBin gIx (dVar 0) (dC (.int 1))) (dBin gIx (dVar 1) (dC (.int 1)))) (dNil)))) (dNil)))))) (sRt (dC (.bl false))) (sNx)) (sRt (dAndV (dBin gIs (dCallF F_is_ahead (dCons (dVar 0) (dCons (dVar 2) (dNil)))) (dC (.bl true))) (dAndV (dBin gIs (dCallF F_is_ahead (dCons (dVar 2) (dCons (dVar 1) (dNil)))) (dC (.bl true))) (dCallF F__law_same (dCons (dCallK F_amid 0 2 [1, 0] dNil (dCons (dVar 1) (dCons (dVar 0) (dNil)))) (dCons (dVar 2) (dNil))))))))))
def F__law_ordered : List D → Sto → Res D := fnD 3 b__law_ordered
def b_law : FS := sSq (sSet 1 (dCallF F__law_begun (dCons (dVar 0) (dNil)))) (sSq (sFor 4000 (iRg1 (dCons (dBin gAdd (dC (.int 3)) (dCallB gMin2 (dCons (dCallB gLen (dCons (dVar 0) (dNil))) (dCons (dC (.int 12)) (dNil))))) (dNil))) (gNm 2) (sSq (sSet 3 (dBin gAdd (dC (.int 1)) (dCallF F__law_take (dCons (dVar 1) (dCons (dC (.int 12)) (dNil)))))) (sSq (sPar 4 5 (dBin gMul (dBin gDiv (dCallF F__law_amount (dCons (dVar 1) (dNil))) (dVar 3)) (dVar 3)) (dBin gMul (dBin gDiv (dCallF F__law_amount (dCons (dVar 1) (dNil))) (dVar 3)) (dVar 3))) (sSq (sIf (dTst (dBin gEq (dBin gAdd (dVar 4) (dVar 5)) (dC (.int 0)))) (sSet 5 (dVar 3)) (sNx)) (sSq (sIf (dOr (dNot (dTst (dCallF F__law_same (dCons (dCallF F_price_of (dCons (dVar 4) (dCons (dVar 5) (dNil)))) (dCons (dCallF F__law_terms (dCons (dVar 4) (dCons (dVar 5) (dNil)))) (dNil)))))) (dNot (dTst (dCallF F__law_same (dCons (dCallK F_price_of 0 2 [1, 0] dNil (dCons (dVar 5) (dCons (dVar 4) (dNil)))) (dCons (dCallF F__law_terms (dCons (dVar 4) (dCons (dVar 5) (dNil)))) (dNil))))))) (sRt (dC (.bl false))) (sNx)) (sSq (sSet 6 (dCallF F__law_pick (dCons (dVar 1) (dCons (dLst (dCons (dCallF F__law_spot (dCons (dVar 1) (dNil))) (dCons (dCallF F__law_no_price (dCons (dVar 1) (dNil))) (dCons (dTup (dCons (dVar 4) (dCons (dVar 5) (dNil)))) (dCons (dLst (dCons (dVar 4) (dCons (dVar 5) (dNil)))) (dNil)))))) (dNil))))) (sSq (sIf (dOr (dNot (dTst (dCallF F__law_says (dCons (dCallF F_is_price (dCons (dVar 6) (dNil))) (dCons (dCallF F__law_is_price (dCons (dVar 6) (dNil))) (dNil)))))) (dNot (dTst (dCallF F__law_says (dCons (dCallK F_is_price 0 1 [0] dNil (dCons (dVar 6) (dNil))) (dCons (dCallF F__law_is_price (dCons (dVar 6) (dNil))) (dNil))))))) (sRt (dC (.bl false))) (sNx)) (sSq (sPar3 7 8 9 (dCallF F__law_spot (dCons (dVar 1) (dNil))) (dCallF F__law_spot (dCons (dVar 1) (dNil))) (dCallF F__law_peak (dCons (dVar 1) (dNil)))) (sSq (sPar 10 11 (dCallF F__law_pair (dCons (dVar 1) (dCons (dVar 9) (dNil)))) (dCallF F__law_pair (dCons (dVar 1) (dCons (dVar 9) (dNil))))) (sSq (sIf (dOr (dNot (dTst (dCallF F__law_same (dCons (dCallF F_worth (dCons (dVar 10) (dCons (dVar 7) (dNil)))) (dCons (dCallF F__law_worth (dCons (dVar 10) (dCons (dVar 7) (dNil)))) (dNil)))))) (dNot (dTst (dCallF F__law_same (dCons (dCallK F_worth 0 2 [1, 0] dNil (dCons (dVar 7) (dCons (dVar 10) (dNil)))) (dCons (dCallF F__law_worth (dCons (dVar 10) (dCons (dVar 7) (dNil)))) (dNil))))))) (sRt (dC (.bl false))) (sNx)) (sSq (sIf (dOr (dNot (dTst (dCallF F__law_ordered (dCons (dVar 7) (dCons (dVar 8) (dNil)))))) (dOr (dNot (dTst (dCallF F__law_ordered (dCons (dTup (dCons (dC (.int 1)) (dCons (dC (.int 0)) (dNil)))) (dCons (dVar 7) (dNil)))))) (dNot (dTst (dCallF F__law_ordered (dCons (dVar 7) (dCons (dTup (dCons (dC (.int 0)) (dCons (dC (.int 1)) (dNil)))) (dNil)))))))) (sRt (dC (.bl false))) (sNx)) (sSq (sIf (dOr (dNot (dTst (dCallF F__law_same (dCons (dCallF F_meeting (dCons (dVar 10) (dCons (dVar 11) (dNil)))) (dCons (dCallF F__law_meet (dCons (dVar 10) (dCons (dVar 11) (dNil)))) (dNil)))))) (dTst (dBin gIsNot (dCallF F_meeting (dCons (dVar 10) (dCons (dVar 10) (dNil)))) (dC .non)))) (sRt (dC (.bl false))) (sNx)) (sSq (sIf (dNot (dTst (dCallF F__law_same (dCons (dCallK F_meeting 0 2 [1, 0] dNil (dCons (dVar 11) (dCons (dVar 10) (dNil)))) (dCons (dCallF F__law_meet (dCons (dVar 11) (dCons (dVar 10) (dNil)))) (dNil)))))) (sRt (dC (.bl false))) (sNx)) (sSq (sSet 12 (dTup (dCons (dBin gAdd (dBin gIx (dVar 10) (dC (.int 0))) (dBin gIx (dVar 7) (dC (.int 1)))) (dCons (dBin gSub (dBin gIx (dVar 10) (dC (.int 1))) (dBin gIx (dVar 7) (dC (.int 0)))) (dNil))))) (sSq (sIf (dAnd (dTst (dBin gLt (dCallB gAbs (dCons (dBin gIx (dVar 12) (dC (.int 0))) (dNil))) (dBin gPow (dC (.int 10)) (dC (.int 12))))) (dAnd (dTst (dBin gLt (dCallB gAbs (dCons (dBin gIx (dVar 12) (dC (.int 1))) (dNil))) (dBin gPow (dC (.int 10)) (dC (.int 12))))) (dNot (dTst (dCallF F__law_same (dCons (dCallF F_meeting (dCons (dVar 10) (dCons (dVar 12) (dNil)))) (dCons (dVar 7) (dNil)))))))) (sRt (dC (.bl false))) (sNx)) (sIf (dNot (dTst (dCallF F__law_refused (dCons (dVar 1) (dCons (dVar 10) (dCons (dVar 7) (dNil))))))) (sRt (dC (.bl false))) (sNx))))))))))))))))) (sRt (dC (.bl true))))
def F_law : List D → Sto → Res D := fnD 13 b_law
/-! ### where things stand, and what is said of them -/
structure Ad where
  (f8 f10 f11 f12 f13 f14 f15 f16 f17 f18 f19 f20 f21 f22 f23 f25 f26 f27 f28 f29 f30 f31 f32 f33 f34 f35 f36 f37 f38 f39 f40 f41 f42 f43 f44 f45 f46 f47 f48 C0 C1 C2 C3 C4 c46 c47 P46 P47 : Addr)
  (fd8 fd10 fd11 fd12 fd13 fd14 fd15 fd16 fd17 fd18 fd19 fd20 fd21 fd22 fd23 fd25 fd26 fd27 fd28 fd29 fd30 fd31 fd32 fd33 fd34 fd35 fd36 fd37 fd38 fd39 fd40 fd41 fd42 fd43 fd44 fd45 fd46 fd47 fd48 : FuncData)
abbrev q46 : Str := (envOfC ("_law_refused" : Str) (defScope s46) 0 0 .none).qual ++ "<lambda>"
abbrev q47 : Str := (envOfC ("_law_ordered" : Str) (defScope s47) 0 0 .none).qual ++ "<lambda>"
abbrev Gk (K : PySem.W.Frag) (a : Ad) : Cfg := ⟨K, [], [a.C0, a.C1, a.C2, a.C3, a.C4], [(a.P46, q46), (a.P47, q47)]⟩
structure Txt (K : PySem.W.Frag) (mg : Str → Option Value) (a : Ad) : Prop where
  F8 : Fun K ("is_number" : Str) ("is_number" : Str) s8 a.f8 a.fd8
  m8 : mg ("is_number" : Str) = some (.ref a.f8)
  F10 : Fun K ("is_pair" : Str) ("is_pair" : Str) s10 a.f10 a.fd10
  m10 : mg ("is_pair" : Str) = some (.ref a.f10)
  F11 : Fun K ("is_price" : Str) ("is_price" : Str) s11 a.f11 a.fd11
  m11 : mg ("is_price" : Str) = some (.ref a.f11)
  F12 : Fun K ("need_pair" : Str) ("need_pair" : Str) s12 a.f12 a.fd12
  m12 : mg ("need_pair" : Str) = some (.ref a.f12)
  F13 : Fun K ("need_price" : Str) ("need_price" : Str) s13 a.f13 a.fd13
  m13 : mg ("need_price" : Str) = some (.ref a.f13)
  F14 : Fun K ("least_terms" : Str) ("least_terms" : Str) s14 a.f14 a.fd14
  m14 : mg ("least_terms" : Str) = some (.ref a.f14)
  F15 : Fun K ("price_of" : Str) ("price_of" : Str) s15 a.f15 a.fd15
  m15 : mg ("price_of" : Str) = some (.ref a.f15)
  F16 : Fun K ("leads" : Str) ("leads" : Str) s16 a.f16 a.fd16
  m16 : mg ("leads" : Str) = some (.ref a.f16)
  F17 : Fun K ("is_ahead" : Str) ("is_ahead" : Str) s17 a.f17 a.fd17
  m17 : mg ("is_ahead" : Str) = some (.ref a.f17)
  F18 : Fun K ("weight" : Str) ("weight" : Str) s18 a.f18 a.fd18
  m18 : mg ("weight" : Str) = some (.ref a.f18)
  F19 : Fun K ("worth" : Str) ("worth" : Str) s19 a.f19 a.fd19
  m19 : mg ("worth" : Str) = some (.ref a.f19)
  F20 : Fun K ("between" : Str) ("between" : Str) s20 a.f20 a.fd20
  m20 : mg ("between" : Str) = some (.ref a.f20)
  F21 : Fun K ("amid" : Str) ("amid" : Str) s21 a.f21 a.fd21
  m21 : mg ("amid" : Str) = some (.ref a.f21)
  F22 : Fun K ("alike_at" : Str) ("alike_at" : Str) s22 a.f22 a.fd22
  m22 : mg ("alike_at" : Str) = some (.ref a.f22)
  F23 : Fun K ("meeting" : Str) ("meeting" : Str) s23 a.f23 a.fd23
  m23 : mg ("meeting" : Str) = some (.ref a.f23)
  F25 : Fun K ("_law_begun" : Str) ("_law_begun" : Str) s25 a.f25 a.fd25
  m25 : mg ("_law_begun" : Str) = some (.ref a.f25)
  F26 : Fun K ("_law_mixed" : Str) ("_law_mixed" : Str) s26 a.f26 a.fd26
  m26 : mg ("_law_mixed" : Str) = some (.ref a.f26)
  F27 : Fun K ("_law_take" : Str) ("_law_take" : Str) s27 a.f27 a.fd27
  m27 : mg ("_law_take" : Str) = some (.ref a.f27)
  F28 : Fun K ("_law_pick" : Str) ("_law_pick" : Str) s28 a.f28 a.fd28
  m28 : mg ("_law_pick" : Str) = some (.ref a.f28)
  F29 : Fun K ("_law_caught" : Str) ("_law_caught" : Str) s29 a.f29 a.fd29
  m29 : mg ("_law_caught" : Str) = some (.ref a.f29)
  F30 : Fun K ("_law_is_number" : Str) ("_law_is_number" : Str) s30 a.f30 a.fd30
  m30 : mg ("_law_is_number" : Str) = some (.ref a.f30)
  F31 : Fun K ("_law_says" : Str) ("_law_says" : Str) s31 a.f31 a.fd31
  m31 : mg ("_law_says" : Str) = some (.ref a.f31)
  F32 : Fun K ("_law_gcd" : Str) ("_law_gcd" : Str) s32 a.f32 a.fd32
  m32 : mg ("_law_gcd" : Str) = some (.ref a.f32)
  F33 : Fun K ("_law_terms" : Str) ("_law_terms" : Str) s33 a.f33 a.fd33
  m33 : mg ("_law_terms" : Str) = some (.ref a.f33)
  F34 : Fun K ("_law_leads" : Str) ("_law_leads" : Str) s34 a.f34 a.fd34
  m34 : mg ("_law_leads" : Str) = some (.ref a.f34)
  F35 : Fun K ("_law_is_pair" : Str) ("_law_is_pair" : Str) s35 a.f35 a.fd35
  m35 : mg ("_law_is_pair" : Str) = some (.ref a.f35)
  F36 : Fun K ("_law_is_price" : Str) ("_law_is_price" : Str) s36 a.f36 a.fd36
  m36 : mg ("_law_is_price" : Str) = some (.ref a.f36)
  F37 : Fun K ("_law_worth" : Str) ("_law_worth" : Str) s37 a.f37 a.fd37
  m37 : mg ("_law_worth" : Str) = some (.ref a.f37)
  F38 : Fun K ("_law_meet" : Str) ("_law_meet" : Str) s38 a.f38 a.fd38
  m38 : mg ("_law_meet" : Str) = some (.ref a.f38)
  F39 : Fun K ("_law_amount" : Str) ("_law_amount" : Str) s39 a.f39 a.fd39
  m39 : mg ("_law_amount" : Str) = some (.ref a.f39)
  F40 : Fun K ("_law_spot" : Str) ("_law_spot" : Str) s40 a.f40 a.fd40
  m40 : mg ("_law_spot" : Str) = some (.ref a.f40)
  F41 : Fun K ("_law_pair" : Str) ("_law_pair" : Str) s41 a.f41 a.fd41
  m41 : mg ("_law_pair" : Str) = some (.ref a.f41)
  F42 : Fun K ("_law_peak" : Str) ("_law_peak" : Str) s42 a.f42 a.fd42
  m42 : mg ("_law_peak" : Str) = some (.ref a.f42)
  F43 : Fun K ("_law_same" : Str) ("_law_same" : Str) s43 a.f43 a.fd43
  m43 : mg ("_law_same" : Str) = some (.ref a.f43)
  F44 : Fun K ("_law_strange" : Str) ("_law_strange" : Str) s44 a.f44 a.fd44
  m44 : mg ("_law_strange" : Str) = some (.ref a.f44)
  F45 : Fun K ("_law_no_price" : Str) ("_law_no_price" : Str) s45 a.f45 a.fd45
  m45 : mg ("_law_no_price" : Str) = some (.ref a.f45)
  F46 : FunC K ("_law_refused" : Str) ("_law_refused" : Str) s46 a.f46 a.fd46 a.c46
  m46 : mg ("_law_refused" : Str) = some (.ref a.f46)
  F47 : FunC K ("_law_ordered" : Str) ("_law_ordered" : Str) s47 a.f47 a.fd47 a.c47
  m47 : mg ("_law_ordered" : Str) = some (.ref a.f47)
  F48 : Fun K ("law" : Str) ("law" : Str) s48 a.f48 a.fd48
  m48 : mg ("law" : Str) = some (.ref a.f48)
  x0 : Exd (Gk K a) mg ("ClockError" : Str) 0 a.C0
  x1 : Exd (Gk K a) mg ("BadPrice" : Str) 1 a.C1
  x2 : Exd (Gk K a) mg ("BadNumber" : Str) 2 a.C2
  x3 : Exd (Gk K a) mg ("BadPair" : Str) 3 a.C3
  x4 : Exd (Gk K a) mg ("NotAhead" : Str) 4 a.C4
  n_abs : mg ("abs" : Str) = none
  n_bool : mg ("bool" : Str) = none
  n_gcd : mg ("gcd" : Str) = some (.builtin "math.gcd")
  n_int : mg ("int" : Str) = none
  n_isinstance : mg ("isinstance" : Str) = none
  n_len : mg ("len" : Str) = none
  n_min : mg ("min" : Str) = none
  n_range : mg ("range" : Str) = none
  n_repr : mg ("repr" : Str) = none
  n_tuple : mg ("tuple" : Str) = none
  kinds : KindsOk (Gk K a)
  kn_BadPrice : PySem.W.kitOne K (.type "NoneType") (.ref a.C1) = some false
  k0_BadPrice : PySem.W.kitOne K (.ref a.C0) (.ref a.C1) = some false
  k1_BadPrice : PySem.W.kitOne K (.ref a.C1) (.ref a.C1) = some true
  k2_BadPrice : PySem.W.kitOne K (.ref a.C2) (.ref a.C1) = some false
  k3_BadPrice : PySem.W.kitOne K (.ref a.C3) (.ref a.C1) = some false
  k4_BadPrice : PySem.W.kitOne K (.ref a.C4) (.ref a.C1) = some false
  kn_BadNumber : PySem.W.kitOne K (.type "NoneType") (.ref a.C2) = some false
  k0_BadNumber : PySem.W.kitOne K (.ref a.C0) (.ref a.C2) = some false
  k1_BadNumber : PySem.W.kitOne K (.ref a.C1) (.ref a.C2) = some false
  k2_BadNumber : PySem.W.kitOne K (.ref a.C2) (.ref a.C2) = some true
  k3_BadNumber : PySem.W.kitOne K (.ref a.C3) (.ref a.C2) = some false
  k4_BadNumber : PySem.W.kitOne K (.ref a.C4) (.ref a.C2) = some false
  kn_BadPair : PySem.W.kitOne K (.type "NoneType") (.ref a.C3) = some false
  k0_BadPair : PySem.W.kitOne K (.ref a.C0) (.ref a.C3) = some false
  k1_BadPair : PySem.W.kitOne K (.ref a.C1) (.ref a.C3) = some false
  k2_BadPair : PySem.W.kitOne K (.ref a.C2) (.ref a.C3) = some false
  k3_BadPair : PySem.W.kitOne K (.ref a.C3) (.ref a.C3) = some true
  k4_BadPair : PySem.W.kitOne K (.ref a.C4) (.ref a.C3) = some false
  kn_NotAhead : PySem.W.kitOne K (.type "NoneType") (.ref a.C4) = some false
  k0_NotAhead : PySem.W.kitOne K (.ref a.C0) (.ref a.C4) = some false
  k1_NotAhead : PySem.W.kitOne K (.ref a.C1) (.ref a.C4) = some false
  k2_NotAhead : PySem.W.kitOne K (.ref a.C2) (.ref a.C4) = some false
  k3_NotAhead : PySem.W.kitOne K (.ref a.C3) (.ref a.C4) = some false
  k4_NotAhead : PySem.W.kitOne K (.ref a.C4) (.ref a.C4) = some true
  ex0 : PySem.W.exmOne K (.ref a.C0) (.ref a.C0) = some true
  ex1 : PySem.W.exmOne K (.ref a.C1) (.ref a.C0) = some true
  ex2 : PySem.W.exmOne K (.ref a.C2) (.ref a.C0) = some true
  ex3 : PySem.W.exmOne K (.ref a.C3) (.ref a.C0) = some true
  ex4 : PySem.W.exmOne K (.ref a.C4) (.ref a.C0) = some true
  ne46_47 : a.P46 ≠ a.P47
abbrev Tbs (base : Heap) (mg : Str → Option Value) (a : Ad) : Prop := ∀ p ∈ ([(a.c46, a.P46), (a.c47, a.P47)] : List (Addr × Addr)), TabB base mg p.1 p.2
section
variable {P : Program} {w : World} {K : PySem.W.Frag} {mg : Str → Option Value} {base : Heap} {a : Ad}
theorem ih_BadPrice (T : Txt K mg a) : ∀ k t b, kdTy (Gk K a) k = some t → ic_BadPrice k = some b → PySem.W.kitOne (Gk K a).K t (.ref a.C1) = some b := by
  intro k t b h1 h2
  unfold ic_BadPrice at h2
  split at h2 <;> cases h2 <;> cases h1
  · exact T.kn_BadPrice
  · exact T.k0_BadPrice
  · exact T.k1_BadPrice
  · exact T.k2_BadPrice
  · exact T.k3_BadPrice
  · exact T.k4_BadPrice
theorem ih_BadNumber (T : Txt K mg a) : ∀ k t b, kdTy (Gk K a) k = some t → ic_BadNumber k = some b → PySem.W.kitOne (Gk K a).K t (.ref a.C2) = some b := by
  intro k t b h1 h2
  unfold ic_BadNumber at h2
  split at h2 <;> cases h2 <;> cases h1
  · exact T.kn_BadNumber
  · exact T.k0_BadNumber
  · exact T.k1_BadNumber
  · exact T.k2_BadNumber
  · exact T.k3_BadNumber
  · exact T.k4_BadNumber
theorem ih_BadPair (T : Txt K mg a) : ∀ k t b, kdTy (Gk K a) k = some t → ic_BadPair k = some b → PySem.W.kitOne (Gk K a).K t (.ref a.C3) = some b := by
  intro k t b h1 h2
  unfold ic_BadPair at h2
  split at h2 <;> cases h2 <;> cases h1
  · exact T.kn_BadPair
  · exact T.k0_BadPair
  · exact T.k1_BadPair
  · exact T.k2_BadPair
  · exact T.k3_BadPair
  · exact T.k4_BadPair
theorem ih_NotAhead (T : Txt K mg a) : ∀ k t b, kdTy (Gk K a) k = some t → ic_NotAhead k = some b → PySem.W.kitOne (Gk K a).K t (.ref a.C4) = some b := by
  intro k t b h1 h2
  unfold ic_NotAhead at h2
  split at h2 <;> cases h2 <;> cases h1
  · exact T.kn_NotAhead
  · exact T.k0_NotAhead
  · exact T.k1_NotAhead
  · exact T.k2_NotAhead
  · exact T.k3_NotAhead
  · exact T.k4_NotAhead
theorem catS : CatS ("_law_task" : Str) ("_law_caught_here" : Str) ("error" : Str) ("ClockError" : Str) (defScope s29) := ⟨⟨rfl, rfl, rfl, by decide +kernel, rfl, by decide +kernel, by decide +kernel⟩, rfl, rfl, rfl, rfl, rfl, rfl, rfl, rfl, rfl, rfl, rfl⟩
theorem Txt.cat (T : Txt K mg a) : CatD (Gk K a) mg ("_law_caught" : Str) ("_law_task" : Str) ("_law_caught_here" : Str) ("error" : Str) ("ClockError" : Str) s29 a.f29 a.fd29 a.C0 := ⟨T.F29, T.m29, ⟨_, _, _, _, _, _, _, _, _, _, _, _, _, _, _, rfl⟩, catS, T.x0.gC, T.F29.binds fun _ _ _ _ _ _ us hl => match us, hl with | [_], _ => rfl, fun c C h => by
  match c, h with
  | 0, h => cases h; exact T.ex0
  | 1, h => cases h; exact T.ex1
  | 2, h => cases h; exact T.ex2
  | 3, h => cases h; exact T.ex3
  | 4, h => cases h; exact T.ex4
  | n + 5, h => simp at h⟩
theorem hm46 (T : Txt K mg a) : (a.P46, q46) ∈ (Gk K a).T := by simp
theorem hu46 (T : Txt K mg a) : ∀ x ∈ (Gk K a).T, x.1 = a.P46 → x.2 = q46 := by
  intro x hx he
  simp only [List.mem_cons, List.not_mem_nil, or_false] at hx
  rcases hx with rfl | rfl
  · rfl
  · exact absurd he T.ne46_47.symm
theorem hm47 (T : Txt K mg a) : (a.P47, q47) ∈ (Gk K a).T := by simp
theorem hu47 (T : Txt K mg a) : ∀ x ∈ (Gk K a).T, x.1 = a.P47 → x.2 = q47 := by
  intro x hx he
  simp only [List.mem_cons, List.not_mem_nil, or_false] at hx
  rcases hx with rfl | rfl
  · exact absurd he T.ne46_47
  · rfl
theorem kb_is_ahead_0_other_one (T : Txt K mg a) : KBinds (Gk K a).K a.fd17 [("one" : Str), ("other" : Str)] [("other" : Str), ("one" : Str)] (gath 0 2 [1, 0]) (gath 0 2 [1, 0]) := fun_kb T.F17 (by decide) fun _ _ _ _ _ _ us ws h1 h2 => match us, ws, h1, h2 with | [], [_, _], _, _ => rfl
theorem kb_amid_0_other_one (T : Txt K mg a) : KBinds (Gk K a).K a.fd21 [("one" : Str), ("other" : Str)] [("other" : Str), ("one" : Str)] (gath 0 2 [1, 0]) (gath 0 2 [1, 0]) := fun_kb T.F21 (by decide) fun _ _ _ _ _ _ us ws h1 h2 => match us, ws, h1, h2 with | [], [_, _], _, _ => rfl
theorem kb_price_of_0_q_p (T : Txt K mg a) : KBinds (Gk K a).K a.fd15 [("p" : Str), ("q" : Str)] [("q" : Str), ("p" : Str)] (gath 0 2 [1, 0]) (gath 0 2 [1, 0]) := fun_kb T.F15 (by decide) fun _ _ _ _ _ _ us ws h1 h2 => match us, ws, h1, h2 with | [], [_, _], _, _ => rfl
theorem kb_is_price_0_thing (T : Txt K mg a) : KBinds (Gk K a).K a.fd11 [("thing" : Str)] [("thing" : Str)] (gath 0 1 [0]) (gath 0 1 [0]) := fun_kb T.F11 (by decide) fun _ _ _ _ _ _ us ws h1 h2 => match us, ws, h1, h2 with | [], [_], _, _ => rfl
theorem kb_worth_0_price_pair (T : Txt K mg a) : KBinds (Gk K a).K a.fd19 [("pair" : Str), ("price" : Str)] [("price" : Str), ("pair" : Str)] (gath 0 2 [1, 0]) (gath 0 2 [1, 0]) := fun_kb T.F19 (by decide) fun _ _ _ _ _ _ us ws h1 h2 => match us, ws, h1, h2 with | [], [_, _], _, _ => rfl
theorem kb_meeting_0_other_one (T : Txt K mg a) : KBinds (Gk K a).K a.fd23 [("one" : Str), ("other" : Str)] [("other" : Str), ("one" : Str)] (gath 0 2 [1, 0]) (gath 0 2 [1, 0]) := fun_kb T.F23 (by decide) fun _ _ _ _ _ _ us ws h1 h2 => match us, ws, h1, h2 with | [], [_, _], _, _ => rfl
/-! ### the defs keep it -/
theorem o_is_number (T : Txt K mg a) (tb : Tbs base mg a) : Own (Gk K a) P w mg base 1 ("is_number" : Str) a.f8 a.fd8 [("thing" : Str)] F_is_number := by
  have hN : ([("thing" : Str)] : List Str).Nodup := by decide +kernel
  have sc : FnScope [("thing" : Str)] [("thing" : Str)] (defScope s8) := ⟨rfl, rfl, rfl, hN, rfl, by decide +kernel, by decide +kernel⟩
  refine ⟨fn_data (k := 0) (G := Gk K a) T.F8 sc rfl fun cdv A outer s H E hr => ?_, T.m8, T.F8.kp, T.F8.binds fun _ _ _ _ _ _ us hl => match us, hl with | [_], _ => rfl⟩
  show DSs (Gk K a) (cxD P w K mg base [("thing" : Str)] ("is_number" : Str) (defScope s8) a.f8 cdv A outer s H E) (defBody s8) b_is_number
  exact dss_one (ds_ret (de_and (de_isiT T.kinds (n := "int") T.n_isinstance T.n_int (de_var 0)) (de_one (de_not (de_isiT T.kinds (n := "bool") T.n_isinstance T.n_bool (de_var 0))))))
theorem o_is_pair (T : Txt K mg a) (tb : Tbs base mg a) : Own (Gk K a) P w mg base 2 ("is_pair" : Str) a.f10 a.fd10 [("thing" : Str)] F_is_pair := by
  have hN : ([("thing" : Str)] : List Str).Nodup := by decide +kernel
  have sc : FnScope [("thing" : Str)] [("thing" : Str)] (defScope s10) := ⟨rfl, rfl, rfl, hN, rfl, by decide +kernel, by decide +kernel⟩
  refine ⟨fn_data (k := 1) (G := Gk K a) T.F10 sc rfl fun cdv A outer s H E hr => ?_, T.m10, T.F10.kp, T.F10.binds fun _ _ _ _ _ _ us hl => match us, hl with | [_], _ => rfl⟩
  show DSs (Gk K a) (cxD P w K mg base [("thing" : Str)] ("is_pair" : Str) (defScope s10) a.f10 cdv A outer s H E) (defBody s10) b_is_pair
  exact dss_one (ds_ret (de_and (de_isiT T.kinds (n := "tuple") T.n_isinstance T.n_tuple (de_var 0)) (de_and (de_cmp od_eq (de_callB cd_len T.n_len (da_cons (de_var 0) (da_nil))) (de_int)) (de_and (de_call (o_is_number T tb) hr (by decide) (da_cons (de_ix (de_var 0) (de_int)) (da_nil)) (hlen := len_cons (len_nil))) (de_one (de_call (o_is_number T tb) hr (by decide) (da_cons (de_ix (de_var 0) (de_int)) (da_nil)) (hlen := len_cons (len_nil))))))))
theorem o_is_price (T : Txt K mg a) (tb : Tbs base mg a) : Own (Gk K a) P w mg base 3 ("is_price" : Str) a.f11 a.fd11 [("thing" : Str)] F_is_price := by
  have hN : ([("thing" : Str)] : List Str).Nodup := by decide +kernel
  have sc : FnScope [("thing" : Str)] [("thing" : Str)] (defScope s11) := ⟨rfl, rfl, rfl, hN, rfl, by decide +kernel, by decide +kernel⟩
  refine ⟨fn_data (k := 2) (G := Gk K a) T.F11 sc rfl fun cdv A outer s H E hr => ?_, T.m11, T.F11.kp, T.F11.binds fun _ _ _ _ _ _ us hl => match us, hl with | [_], _ => rfl⟩
  show DSs (Gk K a) (cxD P w K mg base [("thing" : Str)] ("is_price" : Str) (defScope s11) a.f11 cdv A outer s H E) (defBody s11) b_is_price
  exact dss_one (ds_ret (de_and (de_call (o_is_pair T tb) hr (by decide) (da_cons (de_var 0) (da_nil)) (hlen := len_cons (len_nil))) (de_and (de_cmp od_ge (de_ix (de_var 0) (de_int)) (de_int)) (de_and (de_cmp od_ge (de_ix (de_var 0) (de_int)) (de_int)) (de_one (de_cmp od_eq (de_callBf cd_gcd T.n_gcd (da_cons (de_ix (de_var 0) (de_int)) (da_cons (de_ix (de_var 0) (de_int)) (da_nil)))) (de_int)))))))
theorem o_need_pair (T : Txt K mg a) (tb : Tbs base mg a) : Own (Gk K a) P w mg base 3 ("need_pair" : Str) a.f12 a.fd12 [("pair" : Str)] F_need_pair := by
  have hN : ([("pair" : Str)] : List Str).Nodup := by decide +kernel
  have sc : FnScope [("pair" : Str)] [("pair" : Str)] (defScope s12) := ⟨rfl, rfl, rfl, hN, rfl, by decide +kernel, by decide +kernel⟩
  refine ⟨fn_data (k := 2) (G := Gk K a) T.F12 sc rfl fun cdv A outer s H E hr => ?_, T.m12, T.F12.kp, T.F12.binds fun _ _ _ _ _ _ us hl => match us, hl with | [_], _ => rfl⟩
  show DSs (Gk K a) (cxD P w K mg base [("pair" : Str)] ("need_pair" : Str) (defScope s12) a.f12 cdv A outer s H E) (defBody s12) b_need_pair
  exact dss_one (ds_if (dt_not (dt_val (de_call (o_is_pair T tb) hr (by decide) (da_cons (de_var 0) (da_nil)) (hlen := len_cons (len_nil))))) (dss_one (ds_raise T.x3)) (dss_nil))
theorem o_need_price (T : Txt K mg a) (tb : Tbs base mg a) : Own (Gk K a) P w mg base 4 ("need_price" : Str) a.f13 a.fd13 [("price" : Str)] F_need_price := by
  have hN : ([("price" : Str)] : List Str).Nodup := by decide +kernel
  have sc : FnScope [("price" : Str)] [("price" : Str)] (defScope s13) := ⟨rfl, rfl, rfl, hN, rfl, by decide +kernel, by decide +kernel⟩
  refine ⟨fn_data (k := 3) (G := Gk K a) T.F13 sc rfl fun cdv A outer s H E hr => ?_, T.m13, T.F13.kp, T.F13.binds fun _ _ _ _ _ _ us hl => match us, hl with | [_], _ => rfl⟩
  show DSs (Gk K a) (cxD P w K mg base [("price" : Str)] ("need_price" : Str) (defScope s13) a.f13 cdv A outer s H E) (defBody s13) b_need_price
  exact dss_one (ds_if (dt_not (dt_val (de_call (o_is_price T tb) hr (by decide) (da_cons (de_var 0) (da_nil)) (hlen := len_cons (len_nil))))) (dss_one (ds_raise T.x1)) (dss_nil))
theorem o_least_terms (T : Txt K mg a) (tb : Tbs base mg a) : Own (Gk K a) P w mg base 1 ("least_terms" : Str) a.f14 a.fd14 [("p" : Str), ("q" : Str)] F_least_terms := by
  have hN : ([("p" : Str), ("q" : Str), ("common" : Str)] : List Str).Nodup := by decide +kernel
  have sc : FnScope [("p" : Str), ("q" : Str), ("common" : Str)] [("p" : Str), ("q" : Str)] (defScope s14) := ⟨rfl, rfl, rfl, hN, rfl, by decide +kernel, by decide +kernel⟩
  refine ⟨fn_data (k := 0) (G := Gk K a) T.F14 sc rfl fun cdv A outer s H E hr => ?_, T.m14, T.F14.kp, T.F14.binds fun _ _ _ _ _ _ us hl => match us, hl with | [_, _], _ => rfl⟩
  show DSs (Gk K a) (cxD P w K mg base [("p" : Str), ("q" : Str), ("common" : Str)] ("least_terms" : Str) (defScope s14) a.f14 cdv A outer s H E) (defBody s14) b_least_terms
  exact dss_cons (ds_set 2 hN (de_callBf cd_gcd T.n_gcd (da_cons (de_var 0) (da_cons (de_var 1) (da_nil))))) (dss_one (ds_ret (de_tup (da_cons (de_bin od_div (de_var 0) (de_var 2)) (da_cons (de_bin od_div (de_var 1) (de_var 2)) (da_nil))))))
theorem o_price_of (T : Txt K mg a) (tb : Tbs base mg a) : Own (Gk K a) P w mg base 2 ("price_of" : Str) a.f15 a.fd15 [("p" : Str), ("q" : Str)] F_price_of := by
  have hN : ([("p" : Str), ("q" : Str)] : List Str).Nodup := by decide +kernel
  have sc : FnScope [("p" : Str), ("q" : Str)] [("p" : Str), ("q" : Str)] (defScope s15) := ⟨rfl, rfl, rfl, hN, rfl, by decide +kernel, by decide +kernel⟩
  refine ⟨fn_data (k := 1) (G := Gk K a) T.F15 sc rfl fun cdv A outer s H E hr => ?_, T.m15, T.F15.kp, T.F15.binds fun _ _ _ _ _ _ us hl => match us, hl with | [_, _], _ => rfl⟩
  show DSs (Gk K a) (cxD P w K mg base [("p" : Str), ("q" : Str)] ("price_of" : Str) (defScope s15) a.f15 cdv A outer s H E) (defBody s15) b_price_of
  exact dss_cons (ds_if (dt_of (dw_or (dt_not (dt_val (de_call (o_is_number T tb) hr (by decide) (da_cons (de_var 0) (da_nil)) (hlen := len_cons (len_nil))))) (dw_or (dt_not (dt_val (de_call (o_is_number T tb) hr (by decide) (da_cons (de_var 1) (da_nil)) (hlen := len_cons (len_nil))))) (dw_or (dt_cmp od_lt (de_var 0) (de_int)) (dw_or (dt_cmp od_lt (de_var 1) (de_int)) (dw_or1 (dt_cmp od_eq (de_tup (da_cons (de_var 0) (da_cons (de_var 1) (da_nil)))) (de_tup (da_cons (de_int) (da_cons (de_int) (da_nil))))))))))) (dss_one (ds_raise T.x2)) (dss_nil)) (dss_one (ds_ret (de_call (o_least_terms T tb) hr (by decide) (da_cons (de_var 0) (da_cons (de_var 1) (da_nil))) (hlen := len_cons (len_cons (len_nil))))))
theorem o_leads (T : Txt K mg a) (tb : Tbs base mg a) : Own (Gk K a) P w mg base 1 ("leads" : Str) a.f16 a.fd16 [("one" : Str), ("other" : Str)] F_leads := by
  have hN : ([("one" : Str), ("other" : Str)] : List Str).Nodup := by decide +kernel
  have sc : FnScope [("one" : Str), ("other" : Str)] [("one" : Str), ("other" : Str)] (defScope s16) := ⟨rfl, rfl, rfl, hN, rfl, by decide +kernel, by decide +kernel⟩
  refine ⟨fn_data (k := 0) (G := Gk K a) T.F16 sc rfl fun cdv A outer s H E hr => ?_, T.m16, T.F16.kp, T.F16.binds fun _ _ _ _ _ _ us hl => match us, hl with | [_, _], _ => rfl⟩
  show DSs (Gk K a) (cxD P w K mg base [("one" : Str), ("other" : Str)] ("leads" : Str) (defScope s16) a.f16 cdv A outer s H E) (defBody s16) b_leads
  exact dss_one (ds_ret (de_cmp od_gt (de_bin od_mul (de_ix (de_var 0) (de_int)) (de_ix (de_var 1) (de_int))) (de_bin od_mul (de_ix (de_var 1) (de_int)) (de_ix (de_var 0) (de_int)))))
theorem o_is_ahead (T : Txt K mg a) (tb : Tbs base mg a) : Own (Gk K a) P w mg base 5 ("is_ahead" : Str) a.f17 a.fd17 [("one" : Str), ("other" : Str)] F_is_ahead := by
  have hN : ([("one" : Str), ("other" : Str)] : List Str).Nodup := by decide +kernel
  have sc : FnScope [("one" : Str), ("other" : Str)] [("one" : Str), ("other" : Str)] (defScope s17) := ⟨rfl, rfl, rfl, hN, rfl, by decide +kernel, by decide +kernel⟩
  refine ⟨fn_data (k := 4) (G := Gk K a) T.F17 sc rfl fun cdv A outer s H E hr => ?_, T.m17, T.F17.kp, T.F17.binds fun _ _ _ _ _ _ us hl => match us, hl with | [_, _], _ => rfl⟩
  show DSs (Gk K a) (cxD P w K mg base [("one" : Str), ("other" : Str)] ("is_ahead" : Str) (defScope s17) a.f17 cdv A outer s H E) (defBody s17) b_is_ahead
  exact dss_cons (ds_expr (de_call (o_need_price T tb) hr (by decide) (da_cons (de_var 0) (da_nil)) (hlen := len_cons (len_nil)))) (dss_cons (ds_expr (de_call (o_need_price T tb) hr (by decide) (da_cons (de_var 1) (da_nil)) (hlen := len_cons (len_nil)))) (dss_one (ds_ret (de_call (o_leads T tb) hr (by decide) (da_cons (de_var 0) (da_cons (de_var 1) (da_nil))) (hlen := len_cons (len_cons (len_nil)))))))
theorem o_weight (T : Txt K mg a) (tb : Tbs base mg a) : Own (Gk K a) P w mg base 1 ("weight" : Str) a.f18 a.fd18 [("pair" : Str), ("price" : Str)] F_weight := by
  have hN : ([("pair" : Str), ("price" : Str)] : List Str).Nodup := by decide +kernel
  have sc : FnScope [("pair" : Str), ("price" : Str)] [("pair" : Str), ("price" : Str)] (defScope s18) := ⟨rfl, rfl, rfl, hN, rfl, by decide +kernel, by decide +kernel⟩
  refine ⟨fn_data (k := 0) (G := Gk K a) T.F18 sc rfl fun cdv A outer s H E hr => ?_, T.m18, T.F18.kp, T.F18.binds fun _ _ _ _ _ _ us hl => match us, hl with | [_, _], _ => rfl⟩
  show DSs (Gk K a) (cxD P w K mg base [("pair" : Str), ("price" : Str)] ("weight" : Str) (defScope s18) a.f18 cdv A outer s H E) (defBody s18) b_weight
  exact dss_one (ds_ret (de_bin od_add (de_bin od_mul (de_ix (de_var 1) (de_int)) (de_ix (de_var 0) (de_int))) (de_bin od_mul (de_ix (de_var 1) (de_int)) (de_ix (de_var 0) (de_int)))))
theorem o_worth (T : Txt K mg a) (tb : Tbs base mg a) : Own (Gk K a) P w mg base 5 ("worth" : Str) a.f19 a.fd19 [("pair" : Str), ("price" : Str)] F_worth := by
  have hN : ([("pair" : Str), ("price" : Str)] : List Str).Nodup := by decide +kernel
  have sc : FnScope [("pair" : Str), ("price" : Str)] [("pair" : Str), ("price" : Str)] (defScope s19) := ⟨rfl, rfl, rfl, hN, rfl, by decide +kernel, by decide +kernel⟩
  refine ⟨fn_data (k := 4) (G := Gk K a) T.F19 sc rfl fun cdv A outer s H E hr => ?_, T.m19, T.F19.kp, T.F19.binds fun _ _ _ _ _ _ us hl => match us, hl with | [_, _], _ => rfl⟩
  show DSs (Gk K a) (cxD P w K mg base [("pair" : Str), ("price" : Str)] ("worth" : Str) (defScope s19) a.f19 cdv A outer s H E) (defBody s19) b_worth
  exact dss_cons (ds_expr (de_call (o_need_pair T tb) hr (by decide) (da_cons (de_var 0) (da_nil)) (hlen := len_cons (len_nil)))) (dss_cons (ds_expr (de_call (o_need_price T tb) hr (by decide) (da_cons (de_var 1) (da_nil)) (hlen := len_cons (len_nil)))) (dss_one (ds_ret (de_call (o_weight T tb) hr (by decide) (da_cons (de_var 0) (da_cons (de_var 1) (da_nil))) (hlen := len_cons (len_cons (len_nil)))))))
theorem o_between (T : Txt K mg a) (tb : Tbs base mg a) : Own (Gk K a) P w mg base 2 ("between" : Str) a.f20 a.fd20 [("one" : Str), ("other" : Str)] F_between := by
  have hN : ([("one" : Str), ("other" : Str)] : List Str).Nodup := by decide +kernel
  have sc : FnScope [("one" : Str), ("other" : Str)] [("one" : Str), ("other" : Str)] (defScope s20) := ⟨rfl, rfl, rfl, hN, rfl, by decide +kernel, by decide +kernel⟩
  refine ⟨fn_data (k := 1) (G := Gk K a) T.F20 sc rfl fun cdv A outer s H E hr => ?_, T.m20, T.F20.kp, T.F20.binds fun _ _ _ _ _ _ us hl => match us, hl with | [_, _], _ => rfl⟩
  show DSs (Gk K a) (cxD P w K mg base [("one" : Str), ("other" : Str)] ("between" : Str) (defScope s20) a.f20 cdv A outer s H E) (defBody s20) b_between
  exact dss_one (ds_ret (de_call (o_least_terms T tb) hr (by decide) (da_cons (de_bin od_add (de_ix (de_var 0) (de_int)) (de_ix (de_var 1) (de_int))) (da_cons (de_bin od_add (de_ix (de_var 0) (de_int)) (de_ix (de_var 1) (de_int))) (da_nil))) (hlen := len_cons (len_cons (len_nil)))))
theorem o_amid (T : Txt K mg a) (tb : Tbs base mg a) : Own (Gk K a) P w mg base 6 ("amid" : Str) a.f21 a.fd21 [("one" : Str), ("other" : Str)] F_amid := by
  have hN : ([("one" : Str), ("other" : Str)] : List Str).Nodup := by decide +kernel
  have sc : FnScope [("one" : Str), ("other" : Str)] [("one" : Str), ("other" : Str)] (defScope s21) := ⟨rfl, rfl, rfl, hN, rfl, by decide +kernel, by decide +kernel⟩
  refine ⟨fn_data (k := 5) (G := Gk K a) T.F21 sc rfl fun cdv A outer s H E hr => ?_, T.m21, T.F21.kp, T.F21.binds fun _ _ _ _ _ _ us hl => match us, hl with | [_, _], _ => rfl⟩
  show DSs (Gk K a) (cxD P w K mg base [("one" : Str), ("other" : Str)] ("amid" : Str) (defScope s21) a.f21 cdv A outer s H E) (defBody s21) b_amid
  exact dss_cons (ds_if (dt_not (dt_val (de_call (o_is_ahead T tb) hr (by decide) (da_cons (de_var 0) (da_cons (de_var 1) (da_nil))) (hlen := len_cons (len_cons (len_nil)))))) (dss_one (ds_raise T.x4)) (dss_nil)) (dss_one (ds_ret (de_call (o_between T tb) hr (by decide) (da_cons (de_var 0) (da_cons (de_var 1) (da_nil))) (hlen := len_cons (len_cons (len_nil))))))
theorem o_alike_at (T : Txt K mg a) (tb : Tbs base mg a) : Own (Gk K a) P w mg base 2 ("alike_at" : Str) a.f22 a.fd22 [("one" : Str), ("other" : Str)] F_alike_at := by
  have hN : ([("one" : Str), ("other" : Str), ("more" : Str), ("less" : Str)] : List Str).Nodup := by decide +kernel
  have sc : FnScope [("one" : Str), ("other" : Str), ("more" : Str), ("less" : Str)] [("one" : Str), ("other" : Str)] (defScope s22) := ⟨rfl, rfl, rfl, hN, rfl, by decide +kernel, by decide +kernel⟩
  refine ⟨fn_data (k := 1) (G := Gk K a) T.F22 sc rfl fun cdv A outer s H E hr => ?_, T.m22, T.F22.kp, T.F22.binds fun _ _ _ _ _ _ us hl => match us, hl with | [_, _], _ => rfl⟩
  show DSs (Gk K a) (cxD P w K mg base [("one" : Str), ("other" : Str), ("more" : Str), ("less" : Str)] ("alike_at" : Str) (defScope s22) a.f22 cdv A outer s H E) (defBody s22) b_alike_at
  exact dss_cons (ds_par 2 3 hN (de_bin od_sub (de_ix (de_var 0) (de_int)) (de_ix (de_var 1) (de_int))) (de_bin od_sub (de_ix (de_var 1) (de_int)) (de_ix (de_var 0) (de_int)))) (dss_cons (ds_if (dt_of (dw_or (dt_cmp od_eq (de_tup (da_cons (de_var 2) (da_cons (de_var 3) (da_nil)))) (de_tup (da_cons (de_int) (da_cons (de_int) (da_nil))))) (dw_or1 (dt_cmp od_lt (de_bin od_mul (de_var 2) (de_var 3)) (de_int))))) (dss_one (ds_ret (de_non))) (dss_nil)) (dss_one (ds_ret (de_call (o_least_terms T tb) hr (by decide) (da_cons (de_callB cd_abs T.n_abs (da_cons (de_var 3) (da_nil))) (da_cons (de_callB cd_abs T.n_abs (da_cons (de_var 2) (da_nil))) (da_nil))) (hlen := len_cons (len_cons (len_nil)))))))
theorem o_meeting (T : Txt K mg a) (tb : Tbs base mg a) : Own (Gk K a) P w mg base 4 ("meeting" : Str) a.f23 a.fd23 [("one" : Str), ("other" : Str)] F_meeting := by
  have hN : ([("one" : Str), ("other" : Str)] : List Str).Nodup := by decide +kernel
  have sc : FnScope [("one" : Str), ("other" : Str)] [("one" : Str), ("other" : Str)] (defScope s23) := ⟨rfl, rfl, rfl, hN, rfl, by decide +kernel, by decide +kernel⟩
  refine ⟨fn_data (k := 3) (G := Gk K a) T.F23 sc rfl fun cdv A outer s H E hr => ?_, T.m23, T.F23.kp, T.F23.binds fun _ _ _ _ _ _ us hl => match us, hl with | [_, _], _ => rfl⟩
  show DSs (Gk K a) (cxD P w K mg base [("one" : Str), ("other" : Str)] ("meeting" : Str) (defScope s23) a.f23 cdv A outer s H E) (defBody s23) b_meeting
  exact dss_cons (ds_expr (de_call (o_need_pair T tb) hr (by decide) (da_cons (de_var 0) (da_nil)) (hlen := len_cons (len_nil)))) (dss_cons (ds_expr (de_call (o_need_pair T tb) hr (by decide) (da_cons (de_var 1) (da_nil)) (hlen := len_cons (len_nil)))) (dss_one (ds_ret (de_call (o_alike_at T tb) hr (by decide) (da_cons (de_var 0) (da_cons (de_var 1) (da_nil))) (hlen := len_cons (len_cons (len_nil)))))))
theorem o__law_begun (T : Txt K mg a) (tb : Tbs base mg a) : Own (Gk K a) P w mg base 1 ("_law_begun" : Str) a.f25 a.fd25 [("_law_script" : Str)] F__law_begun := by
  have hN : ([("_law_script" : Str), ("_law_great" : Str), ("_law_cell" : Str)] : List Str).Nodup := by decide +kernel
  have sc : FnScope [("_law_script" : Str), ("_law_great" : Str), ("_law_cell" : Str)] [("_law_script" : Str)] (defScope s25) := ⟨rfl, rfl, rfl, hN, rfl, by decide +kernel, by decide +kernel⟩
  refine ⟨fn_data (k := 0) (G := Gk K a) T.F25 sc rfl fun cdv A outer s H E hr => ?_, T.m25, T.F25.kp, T.F25.binds fun _ _ _ _ _ _ us hl => match us, hl with | [_], _ => rfl⟩
  show DSs (Gk K a) (cxD P w K mg base [("_law_script" : Str), ("_law_great" : Str), ("_law_cell" : Str)] ("_law_begun" : Str) (defScope s25) a.f25 cdv A outer s H E) (defBody s25) b__law_begun
  exact dss_cons (ds_setLc true 1 hN (ix := [(("_law_cell" : Str), 2)]) (T := (.one 2)) (blkOk_by (N := [("_law_script" : Str), ("_law_great" : Str), ("_law_cell" : Str)]) (sc := defScope s25) (by decide +kernel)) (di_list (de_var 0)) (by decide) (fun _ _ _ _ _ _ => (pg_name hN rfl (by first | exact Or.inl rfl | exact Or.inr rfl) (by first | exact .inl rfl | exact .inr rfl))) (fun _ _ _ _ _ => dts_one (dt_cmp od_ge (de_callB cd_abs T.n_abs (da_cons (de_var 2) (da_nil))) (de_bin od_pow (de_int) (de_int)))) (fun _ _ _ _ _ => de_bin od_sub (de_callB cd_abs T.n_abs (da_cons (de_var 2) (da_nil))) (de_bin od_pow (de_int) (de_int)))) (dss_one (ds_ret (de_disp true (PrD.cons (de_str) (de_var 1) (PrD.cons (de_str) (de_lc false hN (ix := [(("_law_cell" : Str), 2)]) (T := (.one 2)) (blkOk_by (N := [("_law_script" : Str), ("_law_great" : Str), ("_law_cell" : Str)]) (sc := defScope s25) (by decide +kernel)) (di_list (de_var 0)) (by decide) (fun _ _ _ _ _ _ => (pg_name hN rfl (by first | exact Or.inl rfl | exact Or.inr rfl) (by first | exact .inl rfl | exact .inr rfl))) (fun _ _ _ _ _ => dts_nil) (fun _ _ _ _ _ => de_bin od_mod (de_callTy cd_int T.n_int (da_cons (de_callB cd_abs T.n_abs (da_cons (de_var 2) (da_nil))) (da_nil))) (de_int))) (PrD.cons (de_str) (de_int) (PrD.cons (de_str) (de_int) (PrD.nil))))))))
theorem o__law_mixed (T : Txt K mg a) (tb : Tbs base mg a) : Own (Gk K a) P w mg base 1 ("_law_mixed" : Str) a.f26 a.fd26 [("_law_draw" : Str)] F__law_mixed := by
  have hN : ([("_law_draw" : Str), ("_law_turn" : Str), ("_law_found" : Str), ("_law_prime" : Str), ("_law_blend" : Str), ("_law_cell" : Str)] : List Str).Nodup := by decide +kernel
  have sc : FnScope [("_law_draw" : Str), ("_law_turn" : Str), ("_law_found" : Str), ("_law_prime" : Str), ("_law_blend" : Str), ("_law_cell" : Str)] [("_law_draw" : Str)] (defScope s26) := ⟨rfl, rfl, rfl, hN, rfl, by decide +kernel, by decide +kernel⟩
  refine ⟨fn_data (k := 0) (G := Gk K a) T.F26 sc rfl fun cdv A outer s H E hr => ?_, T.m26, T.F26.kp, T.F26.binds fun _ _ _ _ _ _ us hl => match us, hl with | [_], _ => rfl⟩
  show DSs (Gk K a) (cxD P w K mg base [("_law_draw" : Str), ("_law_turn" : Str), ("_law_found" : Str), ("_law_prime" : Str), ("_law_blend" : Str), ("_law_cell" : Str)] ("_law_mixed" : Str) (defScope s26) a.f26 cdv A outer s H E) (defBody s26) b__law_mixed
  exact dss_cons (ds_par 1 2 hN (de_bin od_add (de_dget (de_var 0) (de_str)) (de_int)) (de_int)) (dss_cons (ds_dput (de_var 0) (de_str) (de_var 1)) (dss_cons (ds_for 4000 (di_list (de_lst (da_cons (de_int) (da_cons (de_int) (da_cons (de_int) (da_cons (de_int) (da_nil))))))) (dg_name 3 hN) (dss_cons (ds_set 4 hN (de_bin od_add (de_bin od_mul (de_int) (de_var 1)) (de_bin od_div (de_var 3) (de_int)))) (dss_cons (ds_for 4000 (di_list (de_dget (de_var 0) (de_str))) (dg_name 5 hN) (dss_one (ds_set 4 hN (de_bin od_mod (de_callTy cd_int T.n_int (da_cons (de_bin od_add (de_bin od_add (de_bin od_mul (de_var 4) (de_int)) (de_var 5)) (de_var 1)) (da_nil))) (de_var 3))))) (dss_one (ds_set 2 hN (de_bin od_add (de_bin od_mul (de_var 2) (de_int)) (de_bin od_mod (de_callTy cd_int T.n_int (da_cons (de_bin od_pow (de_var 4) (de_int)) (da_nil))) (de_var 3)))))))) (dss_one (ds_ret (de_var 2)))))
theorem o__law_take (T : Txt K mg a) (tb : Tbs base mg a) : Own (Gk K a) P w mg base 2 ("_law_take" : Str) a.f27 a.fd27 [("_law_draw" : Str), ("_law_many" : Str)] F__law_take := by
  have hN : ([("_law_draw" : Str), ("_law_many" : Str), ("_law_found" : Str)] : List Str).Nodup := by decide +kernel
  have sc : FnScope [("_law_draw" : Str), ("_law_many" : Str), ("_law_found" : Str)] [("_law_draw" : Str), ("_law_many" : Str)] (defScope s27) := ⟨rfl, rfl, rfl, hN, rfl, by decide +kernel, by decide +kernel⟩
  refine ⟨fn_data (k := 1) (G := Gk K a) T.F27 sc rfl fun cdv A outer s H E hr => ?_, T.m27, T.F27.kp, T.F27.binds fun _ _ _ _ _ _ us hl => match us, hl with | [_, _], _ => rfl⟩
  show DSs (Gk K a) (cxD P w K mg base [("_law_draw" : Str), ("_law_many" : Str), ("_law_found" : Str)] ("_law_take" : Str) (defScope s27) a.f27 cdv A outer s H E) (defBody s27) b__law_take
  exact dss_cons (ds_if (dt_cmp od_eq (de_dget (de_var 0) (de_str)) (de_int)) (dss_one (ds_dput (de_var 0) (de_str) (de_if (dt_cmp od_ne (de_dget (de_var 0) (de_str)) (de_lst (da_nil))) (de_mt PySem.F.slot_list_pop PySem.F.type_list_pop md_popAt (de_dget (de_var 0) (de_str)) (da_cons (de_int) (da_nil))) (de_call (o__law_mixed T tb) hr (by decide) (da_cons (de_var 0) (da_nil)) (hlen := len_cons (len_nil)))))) (dss_nil)) (dss_cons (ds_set 2 hN (de_bin od_mod (de_callTy cd_int T.n_int (da_cons (de_dget (de_var 0) (de_str)) (da_nil))) (de_var 1))) (dss_cons (ds_dput (de_var 0) (de_str) (de_bin od_div (de_dget (de_var 0) (de_str)) (de_var 1))) (dss_one (ds_ret (de_var 2)))))
theorem o__law_pick (T : Txt K mg a) (tb : Tbs base mg a) : Own (Gk K a) P w mg base 3 ("_law_pick" : Str) a.f28 a.fd28 [("_law_draw" : Str), ("_law_some" : Str)] F__law_pick := by
  have hN : ([("_law_draw" : Str), ("_law_some" : Str)] : List Str).Nodup := by decide +kernel
  have sc : FnScope [("_law_draw" : Str), ("_law_some" : Str)] [("_law_draw" : Str), ("_law_some" : Str)] (defScope s28) := ⟨rfl, rfl, rfl, hN, rfl, by decide +kernel, by decide +kernel⟩
  refine ⟨fn_data (k := 2) (G := Gk K a) T.F28 sc rfl fun cdv A outer s H E hr => ?_, T.m28, T.F28.kp, T.F28.binds fun _ _ _ _ _ _ us hl => match us, hl with | [_, _], _ => rfl⟩
  show DSs (Gk K a) (cxD P w K mg base [("_law_draw" : Str), ("_law_some" : Str)] ("_law_pick" : Str) (defScope s28) a.f28 cdv A outer s H E) (defBody s28) b__law_pick
  exact dss_one (ds_ret (de_ix (de_var 1) (de_call (o__law_take T tb) hr (by decide) (da_cons (de_var 0) (da_cons (de_callB cd_len T.n_len (da_cons (de_var 1) (da_nil))) (da_nil))) (hlen := len_cons (len_cons (len_nil))))))
theorem o__law_is_number (T : Txt K mg a) (tb : Tbs base mg a) : Own (Gk K a) P w mg base 1 ("_law_is_number" : Str) a.f30 a.fd30 [("_law_item" : Str)] F__law_is_number := by
  have hN : ([("_law_item" : Str)] : List Str).Nodup := by decide +kernel
  have sc : FnScope [("_law_item" : Str)] [("_law_item" : Str)] (defScope s30) := ⟨rfl, rfl, rfl, hN, rfl, by decide +kernel, by decide +kernel⟩
  refine ⟨fn_data (k := 0) (G := Gk K a) T.F30 sc rfl fun cdv A outer s H E hr => ?_, T.m30, T.F30.kp, T.F30.binds fun _ _ _ _ _ _ us hl => match us, hl with | [_], _ => rfl⟩
  show DSs (Gk K a) (cxD P w K mg base [("_law_item" : Str)] ("_law_is_number" : Str) (defScope s30) a.f30 cdv A outer s H E) (defBody s30) b__law_is_number
  exact dss_one (ds_ret (de_and (de_isiT T.kinds (n := "int") T.n_isinstance T.n_int (de_var 0)) (de_one (de_not (de_isiT T.kinds (n := "bool") T.n_isinstance T.n_bool (de_var 0))))))
theorem o__law_says (T : Txt K mg a) (tb : Tbs base mg a) : Own (Gk K a) P w mg base 1 ("_law_says" : Str) a.f31 a.fd31 [("_law_found" : Str), ("_law_due" : Str)] F__law_says := by
  have hN : ([("_law_found" : Str), ("_law_due" : Str)] : List Str).Nodup := by decide +kernel
  have sc : FnScope [("_law_found" : Str), ("_law_due" : Str)] [("_law_found" : Str), ("_law_due" : Str)] (defScope s31) := ⟨rfl, rfl, rfl, hN, rfl, by decide +kernel, by decide +kernel⟩
  refine ⟨fn_data (k := 0) (G := Gk K a) T.F31 sc rfl fun cdv A outer s H E hr => ?_, T.m31, T.F31.kp, T.F31.binds fun _ _ _ _ _ _ us hl => match us, hl with | [_, _], _ => rfl⟩
  show DSs (Gk K a) (cxD P w K mg base [("_law_found" : Str), ("_law_due" : Str)] ("_law_says" : Str) (defScope s31) a.f31 cdv A outer s H E) (defBody s31) b__law_says
  exact dss_one (ds_ret (de_if (dt_val (de_var 1)) (de_cmp od_is (de_var 0) (de_bl)) (de_cmp od_is (de_var 0) (de_bl))))
theorem o__law_gcd (T : Txt K mg a) (tb : Tbs base mg a) : Own (Gk K a) P w mg base 1 ("_law_gcd" : Str) a.f32 a.fd32 [("_law_one" : Str), ("_law_two" : Str)] F__law_gcd := by
  have hN : ([("_law_one" : Str), ("_law_two" : Str), ("_law_turn" : Str)] : List Str).Nodup := by decide +kernel
  have sc : FnScope [("_law_one" : Str), ("_law_two" : Str), ("_law_turn" : Str)] [("_law_one" : Str), ("_law_two" : Str)] (defScope s32) := ⟨rfl, rfl, rfl, hN, rfl, by decide +kernel, by decide +kernel⟩
  refine ⟨fn_data (k := 0) (G := Gk K a) T.F32 sc rfl fun cdv A outer s H E hr => ?_, T.m32, T.F32.kp, T.F32.binds fun _ _ _ _ _ _ us hl => match us, hl with | [_, _], _ => rfl⟩
  show DSs (Gk K a) (cxD P w K mg base [("_law_one" : Str), ("_law_two" : Str), ("_law_turn" : Str)] ("_law_gcd" : Str) (defScope s32) a.f32 cdv A outer s H E) (defBody s32) b__law_gcd
  exact dss_cons (ds_for 4000 (di_range1 T.n_range (da_cons (de_int) (da_nil))) (dg_name 2 hN) (dss_cons (ds_if (dt_cmp od_eq (de_var 1) (de_int)) (dss_one (ds_ret (de_var 0))) (dss_nil)) (dss_one (ds_par 0 1 hN (de_var 1) (de_bin od_mod (de_callTy cd_int T.n_int (da_cons (de_var 0) (da_nil))) (de_var 1)))))) (dss_one (ds_ret (de_var 0)))
theorem o__law_terms (T : Txt K mg a) (tb : Tbs base mg a) : Own (Gk K a) P w mg base 2 ("_law_terms" : Str) a.f33 a.fd33 [("_law_one" : Str), ("_law_two" : Str)] F__law_terms := by
  have hN : ([("_law_one" : Str), ("_law_two" : Str), ("_law_deep" : Str)] : List Str).Nodup := by decide +kernel
  have sc : FnScope [("_law_one" : Str), ("_law_two" : Str), ("_law_deep" : Str)] [("_law_one" : Str), ("_law_two" : Str)] (defScope s33) := ⟨rfl, rfl, rfl, hN, rfl, by decide +kernel, by decide +kernel⟩
  refine ⟨fn_data (k := 1) (G := Gk K a) T.F33 sc rfl fun cdv A outer s H E hr => ?_, T.m33, T.F33.kp, T.F33.binds fun _ _ _ _ _ _ us hl => match us, hl with | [_, _], _ => rfl⟩
  show DSs (Gk K a) (cxD P w K mg base [("_law_one" : Str), ("_law_two" : Str), ("_law_deep" : Str)] ("_law_terms" : Str) (defScope s33) a.f33 cdv A outer s H E) (defBody s33) b__law_terms
  exact dss_cons (ds_set 2 hN (de_call (o__law_gcd T tb) hr (by decide) (da_cons (de_var 0) (da_cons (de_var 1) (da_nil))) (hlen := len_cons (len_cons (len_nil))))) (dss_one (ds_ret (de_tup (da_cons (de_bin od_div (de_var 0) (de_var 2)) (da_cons (de_bin od_div (de_var 1) (de_var 2)) (da_nil))))))
theorem o__law_leads (T : Txt K mg a) (tb : Tbs base mg a) : Own (Gk K a) P w mg base 1 ("_law_leads" : Str) a.f34 a.fd34 [("_law_one" : Str), ("_law_two" : Str)] F__law_leads := by
  have hN : ([("_law_one" : Str), ("_law_two" : Str)] : List Str).Nodup := by decide +kernel
  have sc : FnScope [("_law_one" : Str), ("_law_two" : Str)] [("_law_one" : Str), ("_law_two" : Str)] (defScope s34) := ⟨rfl, rfl, rfl, hN, rfl, by decide +kernel, by decide +kernel⟩
  refine ⟨fn_data (k := 0) (G := Gk K a) T.F34 sc rfl fun cdv A outer s H E hr => ?_, T.m34, T.F34.kp, T.F34.binds fun _ _ _ _ _ _ us hl => match us, hl with | [_, _], _ => rfl⟩
  show DSs (Gk K a) (cxD P w K mg base [("_law_one" : Str), ("_law_two" : Str)] ("_law_leads" : Str) (defScope s34) a.f34 cdv A outer s H E) (defBody s34) b__law_leads
  exact dss_one (ds_ret (de_cmp od_gt (de_bin od_mul (de_ix (de_var 0) (de_int)) (de_ix (de_var 1) (de_int))) (de_bin od_mul (de_ix (de_var 1) (de_int)) (de_ix (de_var 0) (de_int)))))
theorem o__law_is_pair (T : Txt K mg a) (tb : Tbs base mg a) : Own (Gk K a) P w mg base 2 ("_law_is_pair" : Str) a.f35 a.fd35 [("_law_item" : Str)] F__law_is_pair := by
  have hN : ([("_law_item" : Str)] : List Str).Nodup := by decide +kernel
  have sc : FnScope [("_law_item" : Str)] [("_law_item" : Str)] (defScope s35) := ⟨rfl, rfl, rfl, hN, rfl, by decide +kernel, by decide +kernel⟩
  refine ⟨fn_data (k := 1) (G := Gk K a) T.F35 sc rfl fun cdv A outer s H E hr => ?_, T.m35, T.F35.kp, T.F35.binds fun _ _ _ _ _ _ us hl => match us, hl with | [_], _ => rfl⟩
  show DSs (Gk K a) (cxD P w K mg base [("_law_item" : Str)] ("_law_is_pair" : Str) (defScope s35) a.f35 cdv A outer s H E) (defBody s35) b__law_is_pair
  exact dss_one (ds_ret (de_and (de_isiT T.kinds (n := "tuple") T.n_isinstance T.n_tuple (de_var 0)) (de_and (de_cmp od_eq (de_callB cd_len T.n_len (da_cons (de_var 0) (da_nil))) (de_int)) (de_and (de_call (o__law_is_number T tb) hr (by decide) (da_cons (de_ix (de_var 0) (de_int)) (da_nil)) (hlen := len_cons (len_nil))) (de_one (de_call (o__law_is_number T tb) hr (by decide) (da_cons (de_ix (de_var 0) (de_int)) (da_nil)) (hlen := len_cons (len_nil))))))))
theorem o__law_is_price (T : Txt K mg a) (tb : Tbs base mg a) : Own (Gk K a) P w mg base 3 ("_law_is_price" : Str) a.f36 a.fd36 [("_law_item" : Str)] F__law_is_price := by
  have hN : ([("_law_item" : Str)] : List Str).Nodup := by decide +kernel
  have sc : FnScope [("_law_item" : Str)] [("_law_item" : Str)] (defScope s36) := ⟨rfl, rfl, rfl, hN, rfl, by decide +kernel, by decide +kernel⟩
  refine ⟨fn_data (k := 2) (G := Gk K a) T.F36 sc rfl fun cdv A outer s H E hr => ?_, T.m36, T.F36.kp, T.F36.binds fun _ _ _ _ _ _ us hl => match us, hl with | [_], _ => rfl⟩
  show DSs (Gk K a) (cxD P w K mg base [("_law_item" : Str)] ("_law_is_price" : Str) (defScope s36) a.f36 cdv A outer s H E) (defBody s36) b__law_is_price
  exact dss_one (ds_ret (de_and (de_call (o__law_is_pair T tb) hr (by decide) (da_cons (de_var 0) (da_nil)) (hlen := len_cons (len_nil))) (de_and (de_cmp od_ge (de_ix (de_var 0) (de_int)) (de_int)) (de_and (de_cmp od_ge (de_ix (de_var 0) (de_int)) (de_int)) (de_one (de_cmp od_eq (de_call (o__law_gcd T tb) hr (by decide) (da_cons (de_ix (de_var 0) (de_int)) (da_cons (de_ix (de_var 0) (de_int)) (da_nil))) (hlen := len_cons (len_cons (len_nil)))) (de_int)))))))
theorem o__law_worth (T : Txt K mg a) (tb : Tbs base mg a) : Own (Gk K a) P w mg base 1 ("_law_worth" : Str) a.f37 a.fd37 [("_law_pair_here" : Str), ("_law_spot_here" : Str)] F__law_worth := by
  have hN : ([("_law_pair_here" : Str), ("_law_spot_here" : Str)] : List Str).Nodup := by decide +kernel
  have sc : FnScope [("_law_pair_here" : Str), ("_law_spot_here" : Str)] [("_law_pair_here" : Str), ("_law_spot_here" : Str)] (defScope s37) := ⟨rfl, rfl, rfl, hN, rfl, by decide +kernel, by decide +kernel⟩
  refine ⟨fn_data (k := 0) (G := Gk K a) T.F37 sc rfl fun cdv A outer s H E hr => ?_, T.m37, T.F37.kp, T.F37.binds fun _ _ _ _ _ _ us hl => match us, hl with | [_, _], _ => rfl⟩
  show DSs (Gk K a) (cxD P w K mg base [("_law_pair_here" : Str), ("_law_spot_here" : Str)] ("_law_worth" : Str) (defScope s37) a.f37 cdv A outer s H E) (defBody s37) b__law_worth
  exact dss_one (ds_ret (de_bin od_add (de_bin od_mul (de_ix (de_var 1) (de_int)) (de_ix (de_var 0) (de_int))) (de_bin od_mul (de_ix (de_var 1) (de_int)) (de_ix (de_var 0) (de_int)))))
theorem o__law_meet (T : Txt K mg a) (tb : Tbs base mg a) : Own (Gk K a) P w mg base 3 ("_law_meet" : Str) a.f38 a.fd38 [("_law_one" : Str), ("_law_two" : Str)] F__law_meet := by
  have hN : ([("_law_one" : Str), ("_law_two" : Str), ("_law_more" : Str), ("_law_less" : Str)] : List Str).Nodup := by decide +kernel
  have sc : FnScope [("_law_one" : Str), ("_law_two" : Str), ("_law_more" : Str), ("_law_less" : Str)] [("_law_one" : Str), ("_law_two" : Str)] (defScope s38) := ⟨rfl, rfl, rfl, hN, rfl, by decide +kernel, by decide +kernel⟩
  refine ⟨fn_data (k := 2) (G := Gk K a) T.F38 sc rfl fun cdv A outer s H E hr => ?_, T.m38, T.F38.kp, T.F38.binds fun _ _ _ _ _ _ us hl => match us, hl with | [_, _], _ => rfl⟩
  show DSs (Gk K a) (cxD P w K mg base [("_law_one" : Str), ("_law_two" : Str), ("_law_more" : Str), ("_law_less" : Str)] ("_law_meet" : Str) (defScope s38) a.f38 cdv A outer s H E) (defBody s38) b__law_meet
  exact dss_cons (ds_par 2 3 hN (de_bin od_sub (de_ix (de_var 0) (de_int)) (de_ix (de_var 1) (de_int))) (de_bin od_sub (de_ix (de_var 1) (de_int)) (de_ix (de_var 0) (de_int)))) (dss_cons (ds_if (dt_of (dw_or (dt_cmp od_lt (de_var 2) (de_int)) (dw_or1 (dt_cmp od_lt (de_var 3) (de_int))))) (dss_one (ds_par 2 3 hN (de_bin od_sub (de_int) (de_var 2)) (de_bin od_sub (de_int) (de_var 3)))) (dss_nil)) (dss_one (ds_ret (de_if (dt_of (dw_or (dt_cmp od_lt (de_var 2) (de_int)) (dw_or (dt_cmp od_lt (de_var 3) (de_int)) (dw_or1 (dt_cmp od_eq (de_bin od_add (de_var 2) (de_var 3)) (de_int)))))) (de_non) (de_call (o__law_terms T tb) hr (by decide) (da_cons (de_var 3) (da_cons (de_var 2) (da_nil))) (hlen := len_cons (len_cons (len_nil))))))))
theorem o__law_amount (T : Txt K mg a) (tb : Tbs base mg a) : Own (Gk K a) P w mg base 3 ("_law_amount" : Str) a.f39 a.fd39 [("_law_draw" : Str)] F__law_amount := by
  have hN : ([("_law_draw" : Str), ("_law_way" : Str)] : List Str).Nodup := by decide +kernel
  have sc : FnScope [("_law_draw" : Str), ("_law_way" : Str)] [("_law_draw" : Str)] (defScope s39) := ⟨rfl, rfl, rfl, hN, rfl, by decide +kernel, by decide +kernel⟩
  refine ⟨fn_data (k := 2) (G := Gk K a) T.F39 sc rfl fun cdv A outer s H E hr => ?_, T.m39, T.F39.kp, T.F39.binds fun _ _ _ _ _ _ us hl => match us, hl with | [_], _ => rfl⟩
  show DSs (Gk K a) (cxD P w K mg base [("_law_draw" : Str), ("_law_way" : Str)] ("_law_amount" : Str) (defScope s39) a.f39 cdv A outer s H E) (defBody s39) b__law_amount
  exact dss_cons (ds_set 1 hN (de_call (o__law_take T tb) hr (by decide) (da_cons (de_var 0) (da_cons (de_int) (da_nil))) (hlen := len_cons (len_cons (len_nil))))) (dss_cons (ds_if (dt_cmp od_eq (de_var 1) (de_int)) (dss_one (ds_ret (de_call (o__law_take T tb) hr (by decide) (da_cons (de_var 0) (da_cons (de_int) (da_nil))) (hlen := len_cons (len_cons (len_nil)))))) (dss_nil)) (dss_one (ds_ret (de_if (dt_cmp od_lt (de_var 1) (de_int)) (de_call (o__law_take T tb) hr (by decide) (da_cons (de_var 0) (da_cons (de_int) (da_nil))) (hlen := len_cons (len_cons (len_nil)))) (de_call (o__law_take T tb) hr (by decide) (da_cons (de_var 0) (da_cons (de_bin od_pow (de_int) (de_int)) (da_nil))) (hlen := len_cons (len_cons (len_nil))))))))
theorem o__law_spot (T : Txt K mg a) (tb : Tbs base mg a) : Own (Gk K a) P w mg base 3 ("_law_spot" : Str) a.f40 a.fd40 [("_law_draw" : Str)] F__law_spot := by
  have hN : ([("_law_draw" : Str), ("_law_way" : Str), ("_law_one" : Str), ("_law_two" : Str)] : List Str).Nodup := by decide +kernel
  have sc : FnScope [("_law_draw" : Str), ("_law_way" : Str), ("_law_one" : Str), ("_law_two" : Str)] [("_law_draw" : Str)] (defScope s40) := ⟨rfl, rfl, rfl, hN, rfl, by decide +kernel, by decide +kernel⟩
  refine ⟨fn_data (k := 2) (G := Gk K a) T.F40 sc rfl fun cdv A outer s H E hr => ?_, T.m40, T.F40.kp, T.F40.binds fun _ _ _ _ _ _ us hl => match us, hl with | [_], _ => rfl⟩
  show DSs (Gk K a) (cxD P w K mg base [("_law_draw" : Str), ("_law_way" : Str), ("_law_one" : Str), ("_law_two" : Str)] ("_law_spot" : Str) (defScope s40) a.f40 cdv A outer s H E) (defBody s40) b__law_spot
  exact dss_cons (ds_set 1 hN (de_call (o__law_take T tb) hr (by decide) (da_cons (de_var 0) (da_cons (de_int) (da_nil))) (hlen := len_cons (len_cons (len_nil))))) (dss_cons (ds_if (dt_cmp od_lt (de_var 1) (de_int)) (dss_one (ds_ret (de_ix (de_lst (da_cons (de_tup (da_cons (de_int) (da_cons (de_int) (da_nil)))) (da_cons (de_tup (da_cons (de_int) (da_cons (de_int) (da_nil)))) (da_nil)))) (de_var 1)))) (dss_nil)) (dss_cons (ds_par 2 3 hN (de_call (o__law_take T tb) hr (by decide) (da_cons (de_var 0) (da_cons (de_int) (da_nil))) (hlen := len_cons (len_cons (len_nil)))) (de_call (o__law_take T tb) hr (by decide) (da_cons (de_var 0) (da_cons (de_int) (da_nil))) (hlen := len_cons (len_cons (len_nil))))) (dss_cons (ds_if (dt_cmp od_eq (de_var 1) (de_int)) (dss_one (ds_par 2 3 hN (de_call (o__law_take T tb) hr (by decide) (da_cons (de_var 0) (da_cons (de_bin od_pow (de_int) (de_int)) (da_nil))) (hlen := len_cons (len_cons (len_nil)))) (de_call (o__law_take T tb) hr (by decide) (da_cons (de_var 0) (da_cons (de_bin od_pow (de_int) (de_int)) (da_nil))) (hlen := len_cons (len_cons (len_nil)))))) (dss_nil)) (dss_one (ds_ret (de_if (dt_cmp od_eq (de_bin od_add (de_var 2) (de_var 3)) (de_int)) (de_tup (da_cons (de_int) (da_cons (de_int) (da_nil)))) (de_call (o__law_terms T tb) hr (by decide) (da_cons (de_var 2) (da_cons (de_var 3) (da_nil))) (hlen := len_cons (len_cons (len_nil))))))))))
theorem o__law_pair (T : Txt K mg a) (tb : Tbs base mg a) : Own (Gk K a) P w mg base 3 ("_law_pair" : Str) a.f41 a.fd41 [("_law_draw" : Str), ("_law_peak_here" : Str)] F__law_pair := by
  have hN : ([("_law_draw" : Str), ("_law_peak_here" : Str)] : List Str).Nodup := by decide +kernel
  have sc : FnScope [("_law_draw" : Str), ("_law_peak_here" : Str)] [("_law_draw" : Str), ("_law_peak_here" : Str)] (defScope s41) := ⟨rfl, rfl, rfl, hN, rfl, by decide +kernel, by decide +kernel⟩
  refine ⟨fn_data (k := 2) (G := Gk K a) T.F41 sc rfl fun cdv A outer s H E hr => ?_, T.m41, T.F41.kp, T.F41.binds fun _ _ _ _ _ _ us hl => match us, hl with | [_, _], _ => rfl⟩
  show DSs (Gk K a) (cxD P w K mg base [("_law_draw" : Str), ("_law_peak_here" : Str)] ("_law_pair" : Str) (defScope s41) a.f41 cdv A outer s H E) (defBody s41) b__law_pair
  exact dss_one (ds_ret (de_tup (da_cons (de_bin od_sub (de_call (o__law_take T tb) hr (by decide) (da_cons (de_var 0) (da_cons (de_bin od_add (de_bin od_mul (de_int) (de_var 1)) (de_int)) (da_nil))) (hlen := len_cons (len_cons (len_nil)))) (de_var 1)) (da_cons (de_bin od_sub (de_call (o__law_take T tb) hr (by decide) (da_cons (de_var 0) (da_cons (de_bin od_add (de_bin od_mul (de_int) (de_var 1)) (de_int)) (da_nil))) (hlen := len_cons (len_cons (len_nil)))) (de_var 1)) (da_nil)))))
theorem o__law_peak (T : Txt K mg a) (tb : Tbs base mg a) : Own (Gk K a) P w mg base 4 ("_law_peak" : Str) a.f42 a.fd42 [("_law_draw" : Str)] F__law_peak := by
  have hN : ([("_law_draw" : Str)] : List Str).Nodup := by decide +kernel
  have sc : FnScope [("_law_draw" : Str)] [("_law_draw" : Str)] (defScope s42) := ⟨rfl, rfl, rfl, hN, rfl, by decide +kernel, by decide +kernel⟩
  refine ⟨fn_data (k := 3) (G := Gk K a) T.F42 sc rfl fun cdv A outer s H E hr => ?_, T.m42, T.F42.kp, T.F42.binds fun _ _ _ _ _ _ us hl => match us, hl with | [_], _ => rfl⟩
  show DSs (Gk K a) (cxD P w K mg base [("_law_draw" : Str)] ("_law_peak" : Str) (defScope s42) a.f42 cdv A outer s H E) (defBody s42) b__law_peak
  exact dss_one (ds_ret (de_call (o__law_pick T tb) hr (by decide) (da_cons (de_var 0) (da_cons (de_lst (da_cons (de_int) (da_cons (de_int) (da_cons (de_int) (da_cons (de_int) (da_cons (de_int) (da_cons (de_bin od_sub (de_bin od_pow (de_int) (de_int)) (de_int)) (da_nil)))))))) (da_nil))) (hlen := len_cons (len_cons (len_nil)))))
theorem o__law_same (T : Txt K mg a) (tb : Tbs base mg a) : OwnG (Gk K a) P w mg base 1 ("_law_same" : Str) a.f43 a.fd43 [("_law_found" : Str), ("_law_due" : Str)] F__law_same := by
  have hN : ([("_law_found" : Str), ("_law_due" : Str)] : List Str).Nodup := by decide +kernel
  have sc : FnScope [("_law_found" : Str), ("_law_due" : Str)] [("_law_found" : Str), ("_law_due" : Str)] (defScope s43) := ⟨rfl, rfl, rfl, hN, rfl, by decide +kernel, by decide +kernel⟩
  refine ⟨fn_dataGF (k := 0) (G := Gk K a) T.F43 sc rfl fun cdv A outer s H E gd hr => ?_, T.m43, T.F43.kp, T.F43.binds fun _ _ _ _ _ _ us hl => match us, hl with | [_, _], _ => rfl⟩
  show DSs (Gk K a) (cxD P w K mg base [("_law_found" : Str), ("_law_due" : Str)] ("_law_same" : Str) (defScope s43) a.f43 cdv A outer s H E) (defBody s43) b__law_same
  exact dss_one (ds_ret (de_cmp od_eq (de_callB (cd_repr gd) T.n_repr (da_cons (de_var 0) (da_nil))) (de_callB (cd_repr gd) T.n_repr (da_cons (de_var 1) (da_nil)))))
theorem o__law_strange (T : Txt K mg a) (tb : Tbs base mg a) : Own (Gk K a) P w mg base 4 ("_law_strange" : Str) a.f44 a.fd44 [("_law_draw" : Str)] F__law_strange := by
  have hN : ([("_law_draw" : Str), ("_law_some" : Str)] : List Str).Nodup := by decide +kernel
  have sc : FnScope [("_law_draw" : Str), ("_law_some" : Str)] [("_law_draw" : Str)] (defScope s44) := ⟨rfl, rfl, rfl, hN, rfl, by decide +kernel, by decide +kernel⟩
  refine ⟨fn_data (k := 3) (G := Gk K a) T.F44 sc rfl fun cdv A outer s H E hr => ?_, T.m44, T.F44.kp, T.F44.binds fun _ _ _ _ _ _ us hl => match us, hl with | [_], _ => rfl⟩
  show DSs (Gk K a) (cxD P w K mg base [("_law_draw" : Str), ("_law_some" : Str)] ("_law_strange" : Str) (defScope s44) a.f44 cdv A outer s H E) (defBody s44) b__law_strange
  exact dss_cons (ds_set 1 hN (de_lst (da_cons (de_non) (da_cons (de_bl) (da_cons (de_int) (da_cons (de_str) (da_cons (de_lst (da_cons (de_int) (da_cons (de_int) (da_nil)))) (da_cons (de_tup (da_cons (de_int) (da_nil))) (da_cons (de_tup (da_cons (de_int) (da_cons (de_int) (da_cons (de_int) (da_nil))))) (da_cons (de_tup (da_cons (de_bl) (da_cons (de_int) (da_nil)))) (da_cons (de_tup (da_cons (de_int) (da_cons (de_bl) (da_nil)))) (da_cons (de_tup (da_cons (de_str) (da_cons (de_int) (da_nil)))) (da_cons (de_tup (da_cons (de_int) (da_cons (de_non) (da_nil)))) (da_cons (de_dnew false) (da_cons (de_tup (da_cons (de_tup (da_cons (de_int) (da_cons (de_int) (da_nil)))) (da_cons (de_int) (da_nil)))) (da_cons (de_tup (da_nil)) (da_nil))))))))))))))))) (dss_one (ds_ret (de_call (o__law_pick T tb) hr (by decide) (da_cons (de_var 0) (da_cons (de_var 1) (da_nil))) (hlen := len_cons (len_cons (len_nil))))))
theorem o__law_no_price (T : Txt K mg a) (tb : Tbs base mg a) : Own (Gk K a) P w mg base 5 ("_law_no_price" : Str) a.f45 a.fd45 [("_law_draw" : Str)] F__law_no_price := by
  have hN : ([("_law_draw" : Str), ("_law_one" : Str), ("_law_two" : Str), ("_law_deep" : Str), ("_law_some" : Str)] : List Str).Nodup := by decide +kernel
  have sc : FnScope [("_law_draw" : Str), ("_law_one" : Str), ("_law_two" : Str), ("_law_deep" : Str), ("_law_some" : Str)] [("_law_draw" : Str)] (defScope s45) := ⟨rfl, rfl, rfl, hN, rfl, by decide +kernel, by decide +kernel⟩
  refine ⟨fn_data (k := 4) (G := Gk K a) T.F45 sc rfl fun cdv A outer s H E hr => ?_, T.m45, T.F45.kp, T.F45.binds fun _ _ _ _ _ _ us hl => match us, hl with | [_], _ => rfl⟩
  show DSs (Gk K a) (cxD P w K mg base [("_law_draw" : Str), ("_law_one" : Str), ("_law_two" : Str), ("_law_deep" : Str), ("_law_some" : Str)] ("_law_no_price" : Str) (defScope s45) a.f45 cdv A outer s H E) (defBody s45) b__law_no_price
  exact dss_cons (ds_par 1 2 hN (de_bin od_add (de_int) (de_call (o__law_take T tb) hr (by decide) (da_cons (de_var 0) (da_cons (de_int) (da_nil))) (hlen := len_cons (len_cons (len_nil))))) (de_bin od_add (de_int) (de_call (o__law_take T tb) hr (by decide) (da_cons (de_var 0) (da_cons (de_int) (da_nil))) (hlen := len_cons (len_cons (len_nil)))))) (dss_cons (ds_set 3 hN (de_bin od_add (de_int) (de_call (o__law_take T tb) hr (by decide) (da_cons (de_var 0) (da_cons (de_int) (da_nil))) (hlen := len_cons (len_cons (len_nil)))))) (dss_cons (ds_set 4 hN (de_lst (da_cons (de_tup (da_cons (de_int) (da_cons (de_int) (da_nil)))) (da_cons (de_tup (da_cons (de_bin od_sub (de_int) (de_var 1)) (da_cons (de_var 2) (da_nil)))) (da_cons (de_tup (da_cons (de_var 1) (da_cons (de_bin od_sub (de_int) (de_var 2)) (da_nil)))) (da_cons (de_tup (da_cons (de_bin od_mul (de_var 3) (de_var 1)) (da_cons (de_bin od_mul (de_var 3) (de_var 2)) (da_nil)))) (da_cons (de_tup (da_cons (de_var 3) (da_cons (de_int) (da_nil)))) (da_cons (de_tup (da_cons (de_int) (da_cons (de_var 3) (da_nil)))) (da_cons (de_tup (da_cons (de_neg (de_int)) (da_cons (de_int) (da_nil)))) (da_cons (de_call (o__law_strange T tb) hr (by decide) (da_cons (de_var 0) (da_nil)) (hlen := len_cons (len_nil))) (da_nil))))))))))) (dss_one (ds_ret (de_call (o__law_pick T tb) hr (by decide) (da_cons (de_var 0) (da_cons (de_var 4) (da_nil))) (hlen := len_cons (len_cons (len_nil))))))))
theorem o__law_refused (T : Txt K mg a) (tb : Tbs base mg a) : Own (Gk K a) P w mg base 9 ("_law_refused" : Str) a.f46 a.fd46 [("_law_draw" : Str), ("_law_pair_here" : Str), ("_law_spot_here" : Str)] F__law_refused := by
  have hN : ([("_law_draw" : Str), ("_law_pair_here" : Str), ("_law_spot_here" : Str), ("_law_bad" : Str), ("_law_none" : Str), ("_law_odd" : Str)] : List Str).Nodup := by decide +kernel
  have sc : FnScope [("_law_draw" : Str), ("_law_pair_here" : Str), ("_law_spot_here" : Str), ("_law_bad" : Str), ("_law_none" : Str), ("_law_odd" : Str)] [("_law_draw" : Str), ("_law_pair_here" : Str), ("_law_spot_here" : Str)] (defScope s46) := ⟨rfl, rfl, rfl, hN, rfl, by decide +kernel, by decide +kernel⟩
  refine ⟨fn_dataFC (k := 8) (G := Gk K a) T.F46 sc rfl fun A outer s H E hr => ?_, T.m46, T.F46.kp, T.F46.fn.binds fun _ _ _ _ _ _ us hl => match us, hl with | [_, _, _], _ => rfl⟩
  show DSs (Gk K a) (cxD P w K mg base [("_law_draw" : Str), ("_law_pair_here" : Str), ("_law_spot_here" : Str), ("_law_bad" : Str), ("_law_none" : Str), ("_law_odd" : Str)] ("_law_refused" : Str) (defScope s46) a.f46 (.ref a.c46) A outer s H E) (defBody s46) b__law_refused
  exact dss_cons (ds_asg (de_tup (da_cons (de_call (o__law_no_price T tb) hr (by decide) (da_cons (de_var 0) (da_nil)) (hlen := len_cons (len_nil))) (da_cons (de_call (o__law_strange T tb) hr (by decide) (da_cons (de_var 0) (da_nil)) (hlen := len_cons (len_nil))) (da_nil)))) (dg_tup (dgs_cons (dg_name 3 hN) (dgs_cons (dg_name 5 hN) (dgs_nil))))) (dss_cons (ds_if (dt_not (dt_val (de_isiC T.kinds (C := a.C3) ic_BadPair T.n_isinstance T.x3.gC (ih_BadPair T) (de_caught (k := 6) (P := a.P46) T.cat (tb (a.c46, a.P46) (by simp)) rfl (hm46 T) (hu46 T) (hr.mono (by decide)) (fun A outer s H E f c hr2 => de_call (o_worth T tb) hr2 (by decide) (da_cons (de_var 5) (da_cons (de_var 3) (da_nil))) (hlen := len_cons (len_cons (len_nil)))) (sc0 := defScope s46) rfl (by decide +kernel))))) (dss_one (ds_ret (de_bl))) (dss_nil)) (dss_cons (ds_if (dt_not (dt_val (de_isiC T.kinds (C := a.C1) ic_BadPrice T.n_isinstance T.x1.gC (ih_BadPrice T) (de_caught (k := 6) (P := a.P46) T.cat (tb (a.c46, a.P46) (by simp)) rfl (hm46 T) (hu46 T) (hr.mono (by decide)) (fun A outer s H E f c hr2 => de_call (o_worth T tb) hr2 (by decide) (da_cons (de_var 1) (da_cons (de_var 3) (da_nil))) (hlen := len_cons (len_cons (len_nil)))) (sc0 := defScope s46) rfl (by decide +kernel))))) (dss_one (ds_ret (de_bl))) (dss_nil)) (dss_cons (ds_if (dt_not (dt_val (de_isiC T.kinds (C := a.C1) ic_BadPrice T.n_isinstance T.x1.gC (ih_BadPrice T) (de_caught (k := 6) (P := a.P46) T.cat (tb (a.c46, a.P46) (by simp)) rfl (hm46 T) (hu46 T) (hr.mono (by decide)) (fun A outer s H E f c hr2 => de_call (o_is_ahead T tb) hr2 (by decide) (da_cons (de_var 3) (da_cons (de_var 2) (da_nil))) (hlen := len_cons (len_cons (len_nil)))) (sc0 := defScope s46) rfl (by decide +kernel))))) (dss_one (ds_ret (de_bl))) (dss_nil)) (dss_cons (ds_if (dt_not (dt_val (de_isiC T.kinds (C := a.C1) ic_BadPrice T.n_isinstance T.x1.gC (ih_BadPrice T) (de_caught (k := 6) (P := a.P46) T.cat (tb (a.c46, a.P46) (by simp)) rfl (hm46 T) (hu46 T) (hr.mono (by decide)) (fun A outer s H E f c hr2 => de_call (o_is_ahead T tb) hr2 (by decide) (da_cons (de_var 2) (da_cons (de_var 3) (da_nil))) (hlen := len_cons (len_cons (len_nil)))) (sc0 := defScope s46) rfl (by decide +kernel))))) (dss_one (ds_ret (de_bl))) (dss_nil)) (dss_cons (ds_if (dt_not (dt_val (de_isiC T.kinds (C := a.C1) ic_BadPrice T.n_isinstance T.x1.gC (ih_BadPrice T) (de_caught (k := 6) (P := a.P46) T.cat (tb (a.c46, a.P46) (by simp)) rfl (hm46 T) (hu46 T) (hr.mono (by decide)) (fun A outer s H E f c hr2 => de_call (o_amid T tb) hr2 (by decide) (da_cons (de_var 3) (da_cons (de_var 2) (da_nil))) (hlen := len_cons (len_cons (len_nil)))) (sc0 := defScope s46) rfl (by decide +kernel))))) (dss_one (ds_ret (de_bl))) (dss_nil)) (dss_cons (ds_if (dt_not (dt_val (de_isiC T.kinds (C := a.C1) ic_BadPrice T.n_isinstance T.x1.gC (ih_BadPrice T) (de_caught (k := 6) (P := a.P46) T.cat (tb (a.c46, a.P46) (by simp)) rfl (hm46 T) (hu46 T) (hr.mono (by decide)) (fun A outer s H E f c hr2 => de_call (o_amid T tb) hr2 (by decide) (da_cons (de_var 2) (da_cons (de_var 3) (da_nil))) (hlen := len_cons (len_cons (len_nil)))) (sc0 := defScope s46) rfl (by decide +kernel))))) (dss_one (ds_ret (de_bl))) (dss_nil)) (dss_cons (ds_if (dt_not (dt_val (de_isiC T.kinds (C := a.C3) ic_BadPair T.n_isinstance T.x3.gC (ih_BadPair T) (de_caught (k := 6) (P := a.P46) T.cat (tb (a.c46, a.P46) (by simp)) rfl (hm46 T) (hu46 T) (hr.mono (by decide)) (fun A outer s H E f c hr2 => de_call (o_meeting T tb) hr2 (by decide) (da_cons (de_var 5) (da_cons (de_var 1) (da_nil))) (hlen := len_cons (len_cons (len_nil)))) (sc0 := defScope s46) rfl (by decide +kernel))))) (dss_one (ds_ret (de_bl))) (dss_nil)) (dss_cons (ds_if (dt_not (dt_val (de_isiC T.kinds (C := a.C3) ic_BadPair T.n_isinstance T.x3.gC (ih_BadPair T) (de_caught (k := 6) (P := a.P46) T.cat (tb (a.c46, a.P46) (by simp)) rfl (hm46 T) (hu46 T) (hr.mono (by decide)) (fun A outer s H E f c hr2 => de_call (o_meeting T tb) hr2 (by decide) (da_cons (de_var 1) (da_cons (de_var 5) (da_nil))) (hlen := len_cons (len_cons (len_nil)))) (sc0 := defScope s46) rfl (by decide +kernel))))) (dss_one (ds_ret (de_bl))) (dss_nil)) (dss_cons (ds_set 4 hN (de_call (o__law_pick T tb) hr (by decide) (da_cons (de_var 0) (da_cons (de_lst (da_cons (de_non) (da_cons (de_bl) (da_cons (de_bl) (da_cons (de_str) (da_cons (de_tup (da_cons (de_int) (da_nil))) (da_cons (de_lst (da_cons (de_int) (da_nil))) (da_cons (de_neg (de_int)) (da_cons (de_bin od_sub (de_bin od_sub (de_int) (de_int)) (de_call (o__law_take T tb) hr (by decide) (da_cons (de_var 0) (da_cons (de_bin od_pow (de_int) (de_int)) (da_nil))) (hlen := len_cons (len_cons (len_nil))))) (da_nil)))))))))) (da_nil))) (hlen := len_cons (len_cons (len_nil))))) (dss_cons (ds_if (dt_not (dt_val (de_isiC T.kinds (C := a.C2) ic_BadNumber T.n_isinstance T.x2.gC (ih_BadNumber T) (de_caught (k := 6) (P := a.P46) T.cat (tb (a.c46, a.P46) (by simp)) rfl (hm46 T) (hu46 T) (hr.mono (by decide)) (fun A outer s H E f c hr2 => de_call (o_price_of T tb) hr2 (by decide) (da_cons (de_var 4) (da_cons (de_int) (da_nil))) (hlen := len_cons (len_cons (len_nil)))) (sc0 := defScope s46) rfl (by decide +kernel))))) (dss_one (ds_ret (de_bl))) (dss_nil)) (dss_cons (ds_if (dt_not (dt_val (de_isiC T.kinds (C := a.C2) ic_BadNumber T.n_isinstance T.x2.gC (ih_BadNumber T) (de_caught (k := 6) (P := a.P46) T.cat (tb (a.c46, a.P46) (by simp)) rfl (hm46 T) (hu46 T) (hr.mono (by decide)) (fun A outer s H E f c hr2 => de_call (o_price_of T tb) hr2 (by decide) (da_cons (de_int) (da_cons (de_var 4) (da_nil))) (hlen := len_cons (len_cons (len_nil)))) (sc0 := defScope s46) rfl (by decide +kernel))))) (dss_one (ds_ret (de_bl))) (dss_nil)) (dss_one (ds_ret (de_isiC T.kinds (C := a.C2) ic_BadNumber T.n_isinstance T.x2.gC (ih_BadNumber T) (de_caught (k := 6) (P := a.P46) T.cat (tb (a.c46, a.P46) (by simp)) rfl (hm46 T) (hu46 T) (hr.mono (by decide)) (fun A outer s H E f c hr2 => de_call (o_price_of T tb) hr2 (by decide) (da_cons (de_int) (da_cons (de_int) (da_nil))) (hlen := len_cons (len_cons (len_nil)))) (sc0 := defScope s46) rfl (by decide +kernel))))))))))))))))
theorem o__law_ordered (T : Txt K mg a) (tb : Tbs base mg a) : OwnG (Gk K a) P w mg base 9 ("_law_ordered" : Str) a.f47 a.fd47 [("_law_one" : Str), ("_law_two" : Str)] F__law_ordered := by
  have hN : ([("_law_one" : Str), ("_law_two" : Str), ("_law_middle" : Str)] : List Str).Nodup := by decide +kernel
  have sc : FnScope [("_law_one" : Str), ("_law_two" : Str), ("_law_middle" : Str)] [("_law_one" : Str), ("_law_two" : Str)] (defScope s47) := ⟨rfl, rfl, rfl, hN, rfl, by decide +kernel, by decide +kernel⟩
  refine ⟨fn_dataGC (k := 8) (G := Gk K a) T.F47 sc rfl fun A outer s H E gd hr => ?_, T.m47, T.F47.kp, T.F47.fn.binds fun _ _ _ _ _ _ us hl => match us, hl with | [_, _], _ => rfl⟩
  show DSs (Gk K a) (cxD P w K mg base [("_law_one" : Str), ("_law_two" : Str), ("_law_middle" : Str)] ("_law_ordered" : Str) (defScope s47) a.f47 (.ref a.c47) A outer s H E) (defBody s47) b__law_ordered
  exact dss_cons (ds_if (dt_of (dw_or (dt_not (dt_val (de_call (o__law_says T tb) hr (by decide) (da_cons (de_call (o_is_ahead T tb) hr (by decide) (da_cons (de_var 0) (da_cons (de_var 1) (da_nil))) (hlen := len_cons (len_cons (len_nil)))) (da_cons (de_call (o__law_leads T tb) hr (by decide) (da_cons (de_var 0) (da_cons (de_var 1) (da_nil))) (hlen := len_cons (len_cons (len_nil)))) (da_nil))) (hlen := len_cons (len_cons (len_nil)))))) (dw_or1 (dt_not (dt_val (de_call (o__law_says T tb) hr (by decide) (da_cons (de_callK0 (o_is_ahead T tb) (kb_is_ahead_0_other_one T) hr (by decide) (dk_cons (de_var 0) (dk_cons (de_var 1) (dk_nil))) (fun ds h => match ds, h with | [_, _], _ => rfl) (len_cons (len_cons (len_nil)))) (da_cons (de_call (o__law_leads T tb) hr (by decide) (da_cons (de_var 1) (da_cons (de_var 0) (da_nil))) (hlen := len_cons (len_cons (len_nil)))) (da_nil))) (hlen := len_cons (len_cons (len_nil))))))))) (dss_one (ds_ret (de_bl))) (dss_nil)) (dss_cons (ds_if (dt_not (dt_val (de_call (o__law_leads T tb) hr (by decide) (da_cons (de_var 0) (da_cons (de_var 1) (da_nil))) (hlen := len_cons (len_cons (len_nil)))))) (dss_one (ds_ret (de_isiC T.kinds (C := a.C4) ic_NotAhead T.n_isinstance T.x4.gC (ih_NotAhead T) (de_caught (k := 6) (P := a.P47) T.cat (tb (a.c47, a.P47) (by simp)) rfl (hm47 T) (hu47 T) (hr.mono (by decide)) (fun A outer s H E f c hr2 => de_call (o_amid T tb) hr2 (by decide) (da_cons (de_var 0) (da_cons (de_var 1) (da_nil))) (hlen := len_cons (len_cons (len_nil)))) (sc0 := defScope s47) rfl (by decide +kernel))))) (dss_nil)) (dss_cons (ds_set 2 hN (de_call (o_amid T tb) hr (by decide) (da_cons (de_var 0) (da_cons (de_var 1) (da_nil))) (hlen := len_cons (len_cons (len_nil))))) (dss_cons (ds_if (dt_not (dt_val (de_callG (o__law_same T tb) gd hr (by decide) (da_cons (de_var 2) (da_cons (de_call (o__law_terms T tb) hr (by decide) (da_cons (de_bin od_add (de_ix (de_var 0) (de_int)) (de_ix (de_var 1) (de_int))) (da_cons (de_bin od_add (de_ix (de_var 0) (de_int)) (de_ix (de_var 1) (de_int))) (da_nil))) (hlen := len_cons (len_cons (len_nil)))) (da_nil))) (len_cons (len_cons (len_nil)))))) (dss_one (ds_ret (de_bl))) (dss_nil)) (dss_one (ds_ret (de_and (de_cmp od_is (de_call (o_is_ahead T tb) hr (by decide) (da_cons (de_var 0) (da_cons (de_var 2) (da_nil))) (hlen := len_cons (len_cons (len_nil)))) (de_bl)) (de_and (de_cmp od_is (de_call (o_is_ahead T tb) hr (by decide) (da_cons (de_var 2) (da_cons (de_var 1) (da_nil))) (hlen := len_cons (len_cons (len_nil)))) (de_bl)) (de_one (de_callG (o__law_same T tb) gd hr (by decide) (da_cons (de_callK0 (o_amid T tb) (kb_amid_0_other_one T) hr (by decide) (dk_cons (de_var 1) (dk_cons (de_var 0) (dk_nil))) (fun ds h => match ds, h with | [_, _], _ => rfl) (len_cons (len_cons (len_nil)))) (da_cons (de_var 2) (da_nil))) (len_cons (len_cons (len_nil))))))))))))
theorem o_law (T : Txt K mg a) (tb : Tbs base mg a) : OwnG (Gk K a) P w mg base 10 ("law" : Str) a.f48 a.fd48 [("_law_script" : Str)] F_law := by
  have hN : ([("_law_script" : Str), ("_law_draw" : Str), ("_law_turn" : Str), ("_law_deep" : Str), ("_law_one" : Str), ("_law_two" : Str), ("_law_thing" : Str), ("_law_spot_here" : Str), ("_law_other" : Str), ("_law_peak_here" : Str), ("_law_pair_here" : Str), ("_law_another" : Str), ("_law_shift" : Str)] : List Str).Nodup := by decide +kernel
  have sc : FnScope [("_law_script" : Str), ("_law_draw" : Str), ("_law_turn" : Str), ("_law_deep" : Str), ("_law_one" : Str), ("_law_two" : Str), ("_law_thing" : Str), ("_law_spot_here" : Str), ("_law_other" : Str), ("_law_peak_here" : Str), ("_law_pair_here" : Str), ("_law_another" : Str), ("_law_shift" : Str)] [("_law_script" : Str)] (defScope s48) := ⟨rfl, rfl, rfl, hN, rfl, by decide +kernel, by decide +kernel⟩
  refine ⟨fn_dataGF (k := 9) (G := Gk K a) T.F48 sc rfl fun cdv A outer s H E gd hr => ?_, T.m48, T.F48.kp, T.F48.binds fun _ _ _ _ _ _ us hl => match us, hl with | [_], _ => rfl⟩
  show DSs (Gk K a) (cxD P w K mg base [("_law_script" : Str), ("_law_draw" : Str), ("_law_turn" : Str), ("_law_deep" : Str), ("_law_one" : Str), ("_law_two" : Str), ("_law_thing" : Str), ("_law_spot_here" : Str), ("_law_other" : Str), ("_law_peak_here" : Str), ("_law_pair_here" : Str), ("_law_another" : Str), ("_law_shift" : Str)] ("law" : Str) (defScope s48) a.f48 cdv A outer s H E) (defBody s48) b_law
  exact dss_cons (ds_set 1 hN (de_call (o__law_begun T tb) hr (by decide) (da_cons (de_var 0) (da_nil)) (hlen := len_cons (len_nil)))) (dss_cons (ds_for 4000 (di_range1 T.n_range (da_cons (de_bin od_add (de_int) (de_callB cd_min2 T.n_min (da_cons (de_callB cd_len T.n_len (da_cons (de_var 0) (da_nil))) (da_cons (de_int) (da_nil))))) (da_nil))) (dg_name 2 hN) (dss_cons (ds_set 3 hN (de_bin od_add (de_int) (de_call (o__law_take T tb) hr (by decide) (da_cons (de_var 1) (da_cons (de_int) (da_nil))) (hlen := len_cons (len_cons (len_nil)))))) (dss_cons (ds_par 4 5 hN (de_bin od_mul (de_bin od_div (de_call (o__law_amount T tb) hr (by decide) (da_cons (de_var 1) (da_nil)) (hlen := len_cons (len_nil))) (de_var 3)) (de_var 3)) (de_bin od_mul (de_bin od_div (de_call (o__law_amount T tb) hr (by decide) (da_cons (de_var 1) (da_nil)) (hlen := len_cons (len_nil))) (de_var 3)) (de_var 3))) (dss_cons (ds_if (dt_cmp od_eq (de_bin od_add (de_var 4) (de_var 5)) (de_int)) (dss_one (ds_set 5 hN (de_var 3))) (dss_nil)) (dss_cons (ds_if (dt_of (dw_or (dt_not (dt_val (de_callG (o__law_same T tb) gd hr (by decide) (da_cons (de_call (o_price_of T tb) hr (by decide) (da_cons (de_var 4) (da_cons (de_var 5) (da_nil))) (hlen := len_cons (len_cons (len_nil)))) (da_cons (de_call (o__law_terms T tb) hr (by decide) (da_cons (de_var 4) (da_cons (de_var 5) (da_nil))) (hlen := len_cons (len_cons (len_nil)))) (da_nil))) (len_cons (len_cons (len_nil)))))) (dw_or1 (dt_not (dt_val (de_callG (o__law_same T tb) gd hr (by decide) (da_cons (de_callK0 (o_price_of T tb) (kb_price_of_0_q_p T) hr (by decide) (dk_cons (de_var 5) (dk_cons (de_var 4) (dk_nil))) (fun ds h => match ds, h with | [_, _], _ => rfl) (len_cons (len_cons (len_nil)))) (da_cons (de_call (o__law_terms T tb) hr (by decide) (da_cons (de_var 4) (da_cons (de_var 5) (da_nil))) (hlen := len_cons (len_cons (len_nil)))) (da_nil))) (len_cons (len_cons (len_nil))))))))) (dss_one (ds_ret (de_bl))) (dss_nil)) (dss_cons (ds_set 6 hN (de_call (o__law_pick T tb) hr (by decide) (da_cons (de_var 1) (da_cons (de_lst (da_cons (de_call (o__law_spot T tb) hr (by decide) (da_cons (de_var 1) (da_nil)) (hlen := len_cons (len_nil))) (da_cons (de_call (o__law_no_price T tb) hr (by decide) (da_cons (de_var 1) (da_nil)) (hlen := len_cons (len_nil))) (da_cons (de_tup (da_cons (de_var 4) (da_cons (de_var 5) (da_nil)))) (da_cons (de_lst (da_cons (de_var 4) (da_cons (de_var 5) (da_nil)))) (da_nil)))))) (da_nil))) (hlen := len_cons (len_cons (len_nil))))) (dss_cons (ds_if (dt_of (dw_or (dt_not (dt_val (de_call (o__law_says T tb) hr (by decide) (da_cons (de_call (o_is_price T tb) hr (by decide) (da_cons (de_var 6) (da_nil)) (hlen := len_cons (len_nil))) (da_cons (de_call (o__law_is_price T tb) hr (by decide) (da_cons (de_var 6) (da_nil)) (hlen := len_cons (len_nil))) (da_nil))) (hlen := len_cons (len_cons (len_nil)))))) (dw_or1 (dt_not (dt_val (de_call (o__law_says T tb) hr (by decide) (da_cons (de_callK0 (o_is_price T tb) (kb_is_price_0_thing T) hr (by decide) (dk_cons (de_var 6) (dk_nil)) (fun ds h => match ds, h with | [_], _ => rfl) (len_cons (len_nil))) (da_cons (de_call (o__law_is_price T tb) hr (by decide) (da_cons (de_var 6) (da_nil)) (hlen := len_cons (len_nil))) (da_nil))) (hlen := len_cons (len_cons (len_nil))))))))) (dss_one (ds_ret (de_bl))) (dss_nil)) (dss_cons (ds_par3 7 8 9 hN (de_call (o__law_spot T tb) hr (by decide) (da_cons (de_var 1) (da_nil)) (hlen := len_cons (len_nil))) (de_call (o__law_spot T tb) hr (by decide) (da_cons (de_var 1) (da_nil)) (hlen := len_cons (len_nil))) (de_call (o__law_peak T tb) hr (by decide) (da_cons (de_var 1) (da_nil)) (hlen := len_cons (len_nil)))) (dss_cons (ds_par 10 11 hN (de_call (o__law_pair T tb) hr (by decide) (da_cons (de_var 1) (da_cons (de_var 9) (da_nil))) (hlen := len_cons (len_cons (len_nil)))) (de_call (o__law_pair T tb) hr (by decide) (da_cons (de_var 1) (da_cons (de_var 9) (da_nil))) (hlen := len_cons (len_cons (len_nil))))) (dss_cons (ds_if (dt_of (dw_or (dt_not (dt_val (de_callG (o__law_same T tb) gd hr (by decide) (da_cons (de_call (o_worth T tb) hr (by decide) (da_cons (de_var 10) (da_cons (de_var 7) (da_nil))) (hlen := len_cons (len_cons (len_nil)))) (da_cons (de_call (o__law_worth T tb) hr (by decide) (da_cons (de_var 10) (da_cons (de_var 7) (da_nil))) (hlen := len_cons (len_cons (len_nil)))) (da_nil))) (len_cons (len_cons (len_nil)))))) (dw_or1 (dt_not (dt_val (de_callG (o__law_same T tb) gd hr (by decide) (da_cons (de_callK0 (o_worth T tb) (kb_worth_0_price_pair T) hr (by decide) (dk_cons (de_var 7) (dk_cons (de_var 10) (dk_nil))) (fun ds h => match ds, h with | [_, _], _ => rfl) (len_cons (len_cons (len_nil)))) (da_cons (de_call (o__law_worth T tb) hr (by decide) (da_cons (de_var 10) (da_cons (de_var 7) (da_nil))) (hlen := len_cons (len_cons (len_nil)))) (da_nil))) (len_cons (len_cons (len_nil))))))))) (dss_one (ds_ret (de_bl))) (dss_nil)) (dss_cons (ds_if (dt_of (dw_or (dt_not (dt_val (de_callG (o__law_ordered T tb) gd hr (by decide) (da_cons (de_var 7) (da_cons (de_var 8) (da_nil))) (len_cons (len_cons (len_nil)))))) (dw_or (dt_not (dt_val (de_callG (o__law_ordered T tb) gd hr (by decide) (da_cons (de_tup (da_cons (de_int) (da_cons (de_int) (da_nil)))) (da_cons (de_var 7) (da_nil))) (len_cons (len_cons (len_nil)))))) (dw_or1 (dt_not (dt_val (de_callG (o__law_ordered T tb) gd hr (by decide) (da_cons (de_var 7) (da_cons (de_tup (da_cons (de_int) (da_cons (de_int) (da_nil)))) (da_nil))) (len_cons (len_cons (len_nil)))))))))) (dss_one (ds_ret (de_bl))) (dss_nil)) (dss_cons (ds_if (dt_of (dw_or (dt_not (dt_val (de_callG (o__law_same T tb) gd hr (by decide) (da_cons (de_call (o_meeting T tb) hr (by decide) (da_cons (de_var 10) (da_cons (de_var 11) (da_nil))) (hlen := len_cons (len_cons (len_nil)))) (da_cons (de_call (o__law_meet T tb) hr (by decide) (da_cons (de_var 10) (da_cons (de_var 11) (da_nil))) (hlen := len_cons (len_cons (len_nil)))) (da_nil))) (len_cons (len_cons (len_nil)))))) (dw_or1 (dt_cmp od_isnot (de_call (o_meeting T tb) hr (by decide) (da_cons (de_var 10) (da_cons (de_var 10) (da_nil))) (hlen := len_cons (len_cons (len_nil)))) (de_non))))) (dss_one (ds_ret (de_bl))) (dss_nil)) (dss_cons (ds_if (dt_not (dt_val (de_callG (o__law_same T tb) gd hr (by decide) (da_cons (de_callK0 (o_meeting T tb) (kb_meeting_0_other_one T) hr (by decide) (dk_cons (de_var 11) (dk_cons (de_var 10) (dk_nil))) (fun ds h => match ds, h with | [_, _], _ => rfl) (len_cons (len_cons (len_nil)))) (da_cons (de_call (o__law_meet T tb) hr (by decide) (da_cons (de_var 11) (da_cons (de_var 10) (da_nil))) (hlen := len_cons (len_cons (len_nil)))) (da_nil))) (len_cons (len_cons (len_nil)))))) (dss_one (ds_ret (de_bl))) (dss_nil)) (dss_cons (ds_set 12 hN (de_tup (da_cons (de_bin od_add (de_ix (de_var 10) (de_int)) (de_ix (de_var 7) (de_int))) (da_cons (de_bin od_sub (de_ix (de_var 10) (de_int)) (de_ix (de_var 7) (de_int))) (da_nil))))) (dss_cons (ds_if (dt_of (dw_and (dt_cmp od_lt (de_callB cd_abs T.n_abs (da_cons (de_ix (de_var 12) (de_int)) (da_nil))) (de_bin od_pow (de_int) (de_int))) (dw_and (dt_cmp od_lt (de_callB cd_abs T.n_abs (da_cons (de_ix (de_var 12) (de_int)) (da_nil))) (de_bin od_pow (de_int) (de_int))) (dw_and1 (dt_not (dt_val (de_callG (o__law_same T tb) gd hr (by decide) (da_cons (de_call (o_meeting T tb) hr (by decide) (da_cons (de_var 10) (da_cons (de_var 12) (da_nil))) (hlen := len_cons (len_cons (len_nil)))) (da_cons (de_var 7) (da_nil))) (len_cons (len_cons (len_nil)))))))))) (dss_one (ds_ret (de_bl))) (dss_nil)) (dss_one (ds_if (dt_not (dt_val (de_call (o__law_refused T tb) hr (by decide) (da_cons (de_var 1) (da_cons (de_var 10) (da_cons (de_var 7) (da_nil)))) (hlen := len_cons (len_cons (len_cons (len_nil))))))) (dss_one (ds_ret (de_bl))) (dss_nil)))))))))))))))))) (dss_one (ds_ret (de_bl))))
end
end K17
set_option maxHeartbeats 1000000
namespace K17
open PySem L2 DL
/-! ### the draws -/
theorem szl {n : Nat} (h : n ≤ 1000) : n ≤ sizeLine := by
  have : sizeLine = 16777216 := sizeLine_eq
  omega
theorem lg {i : Int} (k : Nat) (hk : 0 < k) (h : i.natAbs < 2 ^ k) : i.natAbs.log2 < k := log2_lt h hk
def Kd4 : List Key := [.inr "great", .inr "cells", .inr "left", .inr "turn"]
def Dr (g c : List Int) (l t : Int) (R : Sto) : Sto := .lst (g.map .int) :: .dic Kd4 [.own 0, .lst (c.map .int), .int l, .int t] :: R
structure Dv (n : Int) (R : Sto) (M : Sto) : Prop where
  ex : ∃ g c l t, M = Dr g c l t R ∧ (∀ x ∈ g, 0 ≤ x) ∧ (∀ x ∈ c, 0 ≤ x ∧ x < 2147483629) ∧ 0 ≤ l ∧ 0 ≤ t ∧ t ≤ n
theorem Dv.mono {n m : Int} {R M : Sto} (h : Dv n R M) (k : n ≤ m) : Dv m R M := by
  obtain ⟨g, c, l, t, e, h1, h2, h3, h4, h5⟩ := h.ex
  exact ⟨g, c, l, t, e, h1, h2, h3, h4, Int.le_trans h5 k⟩
section
variable {g c : List Int} {l t v : Int} {R : Sto} {ρ : DL.Env}
theorem get_great : gDGet (Dr g c l t R) (.own 1) (.str "great") = some (.own 0) := by rfl
theorem get_cells : gDGet (Dr g c l t R) (.own 1) (.str "cells") = some (.lst (c.map .int)) := by rfl
theorem get_left : gDGet (Dr g c l t R) (.own 1) (.str "left") = some (.int l) := by rfl
theorem get_turn : gDGet (Dr g c l t R) (.own 1) (.str "turn") = some (.int t) := by rfl
theorem put_left : kDP ρ (.int v) (.own 1) (.str "left") (Dr g c l t R) = .nx ρ (Dr g c v t R) := by
  have h : (4 : Nat) < sizeLine := by rw [sizeLine_eq]; decide
  show (if (4 : Nat) < sizeLine then Out.nx ρ ((Dr g c l t R).set 1 (.dic (putKs Kd4 (.inr "left")) (putVs Kd4 [.own 0, .lst (c.map .int), .int l, .int t] (.inr "left") (.int v)))) else .bad) = _
  rw [if_pos h]
  rfl
theorem put_turn : kDP ρ (.int v) (.own 1) (.str "turn") (Dr g c l t R) = .nx ρ (Dr g c l v R) := by
  have h : (4 : Nat) < sizeLine := by rw [sizeLine_eq]; decide
  show (if (4 : Nat) < sizeLine then Out.nx ρ ((Dr g c l t R).set 1 (.dic (putKs Kd4 (.inr "turn")) (putVs Kd4 [.own 0, .lst (c.map .int), .int l, .int t] (.inr "turn") (.int v)))) else .bad) = _
  rw [if_pos h]
  rfl
end
theorem gInt_int (M : Sto) (i : Int) : gInt1 M [.int i] = some (.int i) := rfl
theorem mix_cells {M : Sto} {turn p found : Int} (hp : 0 < p) (hp2 : p < 2147483648) (ht : 0 ≤ turn) (ht2 : turn ≤ 1000000000) : ∀ (c : List Int) (blend : Int) (x5 : Option D), (∀ x ∈ c, 0 ≤ x ∧ x < 2147483629) → 0 ≤ blend → blend < 2 ^ 63 →
    ∃ (b' : Int) (x5' : Option D), forD (gNm 5) (sSet 4 (dBin gMod (dCallB gInt1 (dCons (dBin gAdd (dBin gAdd (dBin gMul (dVar 4) (dC (.int 69621))) (dVar 5)) (dVar 1)) (dNil))) (dVar 3))) (c.map .int) [some (.own 1), some (.int turn), some (.int found), some (.int p), some (.int blend), x5] M =
      .nx [some (.own 1), some (.int turn), some (.int found), some (.int p), some (.int b'), x5'] M ∧ 0 ≤ b' ∧ b' < 2 ^ 63
  | [], blend, x5, _, h1, h2 => ⟨blend, x5, rfl, h1, h2⟩
  | x :: c, blend, x5, hc, h1, h2 => by
    have hx := hc x List.mem_cons_self
    have hm := Int.emod_nonneg (blend * 69621 + x + turn) (Int.ne_of_gt hp)
    have hm2 := Int.emod_lt_of_pos (blend * 69621 + x + turn) hp
    obtain ⟨b', x5', e, e1, e2⟩ := mix_cells hp hp2 ht ht2 c ((blend * 69621 + x + turn) % p) (some (.int x)) (fun y hy => hc y (List.mem_cons_of_mem _ hy)) hm (by omega)
    refine ⟨b', x5', ?_, e1, e2⟩
    have l1 := lg (i := blend) 63 (by decide) (by omega)
    have l2 : (69621 : Int).natAbs.log2 < 20 := by decide
    rw [List.map_cons, forD_cons, stp_nm]
    simp only [List.set_cons_succ, List.set_cons_zero, sSet_eq, dBin_eq, dCallB_eq, dCons_eq, dNil_eq, dVar_s, dVar_0, dC_eq, bind_ok, gMul_int (M := M) (i := blend) (j := 69621) (by omega), ofO_some', gAdd_int, gInt_int, gMod_int hp, thn_ok, aft_nx]
    exact e
theorem mix_round {M : Sto} {g c : List Int} {l turn p : Int} {R : Sto} (hM : M = Dr g c l turn R) (hc : ∀ x ∈ c, 0 ≤ x ∧ x < 2147483629) (hp : 37 ≤ p) (hp2 : p < 2147483648) (ht : 0 ≤ turn) (ht2 : turn ≤ 1000000000) (found : Int) (hf : 0 ≤ found) (hf2 : found < 2 ^ 200) (x3 x4 x5 : Option D) :
    ∃ (f' : Int) (x4' x5' : Option D), (sSq (sSet 4 (dBin gAdd (dBin gMul (dC (.int 48271)) (dVar 1)) (dBin gDiv (dVar 3) (dC (.int 37))))) (sSq (sFor 4000 (iLst (dBin gDGet (dVar 0) (dC (.str ("cells" : Str))))) (gNm 5) (sSet 4 (dBin gMod (dCallB gInt1 (dCons (dBin gAdd (dBin gAdd (dBin gMul (dVar 4) (dC (.int 69621))) (dVar 5)) (dVar 1)) (dNil))) (dVar 3)))) (sSet 2 (dBin gAdd (dBin gMul (dVar 2) (dC (.int 2147483647))) (dBin gMod (dCallB gInt1 (dCons (dBin gPow (dVar 4) (dC (.int 5))) (dNil))) (dVar 3))))))
      [some (.own 1), some (.int turn), some (.int found), some (.int p), x4, x5] M = .nx [some (.own 1), some (.int turn), some (.int f'), some (.int p), x4', x5'] M ∧ 0 ≤ f' ∧ f' ≤ found * 2147483647 + p := by
  subst hM
  have q0 : 0 ≤ p / 37 := by omega
  have q1 : p / 37 ≤ p := by omega
  obtain ⟨b', x5', e, e1, e2⟩ := mix_cells (M := Dr g c l turn R) (p := p) (found := found) (by omega) hp2 ht ht2 c (48271 * turn + p / 37) x5 hc (by omega) (by omega)
  have m0 := Int.emod_nonneg (b' ^ 5) (show p ≠ 0 by omega)
  have m1 := Int.emod_lt_of_pos (b' ^ 5) (show 0 < p by omega)
  have l1 := lg (i := turn) 63 (by decide) (by omega)
  have l2 : (48271 : Int).natAbs.log2 < 20 := by decide
  have l3 := lg (i := found) 200 (by decide) (by omega)
  have l4 : (2147483647 : Int).natAbs.log2 < 40 := by decide
  have l5 : (37 : Int).natAbs.log2 < 20 := by decide
  refine ⟨found * 2147483647 + b' ^ 5 % p, some (.int b'), x5', ?_, by omega, by omega⟩
  simp only [sSq_eq, sSet_eq, sFor_eq, iLst_eq, List.set_cons_succ, List.set_cons_zero, dBin_eq, dCallB_eq, dCons_eq, dNil_eq, dVar_s, dVar_0, dC_eq, bind_ok, gMul_int (M := Dr g c l turn R) (i := 48271) (j := turn) (by omega), gDiv_int (M := Dr g c l turn R) (i := p) (j := 37) (by decide) (by omega), ofO_some', gAdd_int, thn_ok, seq_nx, get_cells, kLst_lst, forI_fix, e,
    gPow_int (M := Dr g c l turn R) (i := b') (j := 5) ⟨by decide, by decide, by omega⟩, gInt_int, gMod_int (M := Dr g c l turn R) (j := p) (show 0 < p by omega), gMul_int (M := Dr g c l turn R) (i := found) (j := 2147483647) (by omega)]
  rfl
theorem mixed {M : Sto} {g c : List Int} {l turn : Int} {R : Sto} (hM : M = Dr g c l turn R) (hc : ∀ x ∈ c, 0 ≤ x ∧ x < 2147483629) (ht : 0 ≤ turn) (ht2 : turn < 1000000000) : ∃ f : Int, F__law_mixed [.own 1] M = .ok (.int f) (Dr g c l (turn + 1) R) ∧ 0 ≤ f := by
  subst hM
  have z : (0 : Int) ≤ 0 := Int.le_refl _
  obtain ⟨f1, a4, a5, e1, p1, r1⟩ := mix_round (M := Dr g c l (turn + 1) R) rfl hc (p := 2147483647) (by decide) (by decide) (by omega) (by omega) 0 z (by decide) none none none
  obtain ⟨f2, b4, b5, e2, p2, r2⟩ := mix_round (M := Dr g c l (turn + 1) R) rfl hc (p := 2147483629) (by decide) (by decide) (by omega) (by omega) f1 p1 (by omega) none a4 a5
  obtain ⟨f3, c4, c5, e3, p3, r3⟩ := mix_round (M := Dr g c l (turn + 1) R) rfl hc (p := 2147483587) (by decide) (by decide) (by omega) (by omega) f2 p2 (by omega) none b4 b5
  obtain ⟨f4, d4, d5, e4, p4, r4⟩ := mix_round (M := Dr g c l (turn + 1) R) rfl hc (p := 2147483579) (by decide) (by decide) (by omega) (by omega) f3 p3 (by omega) none c4 c5
  refine ⟨f4, ?_, p4⟩
  rw [F__law_mixed, fnD_eq]
  show outR (b__law_mixed [some (.own 1), none, none, none, none, none] (Dr g c l turn R)) = _
  rw [b__law_mixed, sSq_eq, sPar_eq]
  simp only [dBin_eq, dVar_0, dC_eq, bind_ok, get_turn, ofO_some', gAdd_int, thn_ok, List.set_cons_succ, List.set_cons_zero, seq_nx]
  rw [sSq_eq, sDP_eq]
  simp only [dVar_s, dVar_0, dC_eq, bind_ok, thn_ok, put_turn, seq_nx]
  rw [sSq_eq, sFor_eq]
  simp only [iLst_eq, dLst_eq, dCons_eq, dNil_eq, dC_eq, bind_ok]
  rw [if_pos (szl (by decide))]
  simp only [bind_ok, kLst_lst, thn_ok, forI_fix]
  rw [forD_cons, stp_nm]
  simp only [List.set_cons_succ, List.set_cons_zero, e1, aft_nx]
  rw [forD_cons, stp_nm]
  simp only [List.set_cons_succ, List.set_cons_zero, e2, aft_nx]
  rw [forD_cons, stp_nm]
  simp only [List.set_cons_succ, List.set_cons_zero, e3, aft_nx]
  rw [forD_cons, stp_nm]
  simp only [List.set_cons_succ, List.set_cons_zero, e4, aft_nx, forD_nil, seq_nx, sRt_eq, dVar_s, dVar_0, thn_ok, outR_rt]
theorem lst_own {g c : List Int} {l t : Int} {R : Sto} : lstOf (Dr g c l t R) (.own 0) = some (g.map .int) := rfl
theorem pop_own {x : Int} {g c : List Int} {l t : Int} {R : Sto} : kMt gPopAt (.own 0) [.int 0] (Dr (x :: g) c l t R) = .ok (.int x) (Dr g c l t R) := by
  have h : seqIndex? 0 ((x :: g).map D.int).length = some 0 := by
    unfold seqIndex?
    simp
  show (match (match (if -(2 ^ 63) ≤ (0 : Int) ∧ (0 : Int) < 2 ^ 63 then match seqIndex? 0 ((x :: g).map D.int).length with
      | some k => match ((x :: g).map D.int)[k]? with
        | some d => some (d, (Dr (x :: g) c l t R).set 0 (.lst (((x :: g).map D.int).eraseIdx k)))
        | none => none
      | none => none
      else none) with
    | some (d, M3) => Res.ok d M3
    | none => .bad) with | r => r) = _
  rw [if_pos (by decide), h]
  rfl
theorem take_tail {g c : List Int} {l t m : Int} {R : Sto} (hl : 0 ≤ l) (hm : 0 < m) (hm2 : m.natAbs.log2 < 9000) (x2 : Option D) :
    (sSq (sSet 2 (dBin gMod (dCallB gInt1 (dCons (dBin gDGet (dVar 0) (dC (.str ("left" : Str)))) (dNil))) (dVar 1))) (sSq (sDP (dVar 0) (dC (.str ("left" : Str))) (dBin gDiv (dBin gDGet (dVar 0) (dC (.str ("left" : Str)))) (dVar 1))) (sRt (dVar 2)))) [some (.own 1), some (.int m), x2] (Dr g c l t R) = .rt (.int (l % m)) (Dr g c (l / m) t R) := by
  simp only [sSq_eq, sSet_eq, sDP_eq, sRt_eq, dBin_eq, dCallB_eq, dCons_eq, dNil_eq, dVar_s, dVar_0, dC_eq, bind_ok, thn_ok, get_left, ofO_some', gInt_int, gMod_int hm, gDiv_int hm hm2, List.set_cons_succ, List.set_cons_zero, seq_nx, put_left]
theorem take {n m : Int} {R M : Sto} (h : Dv n R M) (hn : n < 1000000000) (hm : 0 < m) (hm2 : m.natAbs.log2 < 9000) : ∃ r M', F__law_take [.own 1, .int m] M = .ok (.int r) M' ∧ 0 ≤ r ∧ r < m ∧ Dv (n + 1) R M' := by
  obtain ⟨g, c, l, t, rfl, h1, h2, h3, h4, h5⟩ := h.ex
  have run : ∃ g' l' t', (∀ x ∈ g', 0 ≤ x) ∧ 0 ≤ l' ∧ 0 ≤ t' ∧ t' ≤ n + 1 ∧ (sIf (dTst (dBin gEq (dBin gDGet (dVar 0) (dC (.str ("left" : Str)))) (dC (.int 0)))) (sDP (dVar 0) (dC (.str ("left" : Str))) (dIf (dTst (dBin gNe (dBin gDGet (dVar 0) (dC (.str ("great" : Str)))) (dLst (dNil)))) (dMt gPopAt (dBin gDGet (dVar 0) (dC (.str ("great" : Str)))) (dCons (dC (.int 0)) (dNil))) (dCallF F__law_mixed (dCons (dVar 0) (dNil))))) (sNx))
      [some (.own 1), some (.int m), none] (Dr g c l t R) = .nx [some (.own 1), some (.int m), none] (Dr g' c l' t' R) := by
    rw [sIf_eq]
    simp only [dTst_eq, dBin_eq, dVar_0, dC_eq, bind_ok, get_left, ofO_some', gEq_int, asB_bl, thn_ok]
    by_cases hl : l = 0
    · rw [if_pos (by simp [hl]), sDP_eq, dIf_eq]
      simp only [dTst_eq, dBin_eq, dVar_0, dC_eq, bind_ok, get_great, ofO_some', dLst_eq, dNil_eq]
      rw [if_pos (szl (by decide))]
      have hne := gNe_own (M := Dr g c l t R) (n := 0) (l := g) rfl
      simp only [bind_ok, hne, ofO_some', asB_bl]
      cases g with
      | nil =>
        obtain ⟨f, e, hf⟩ := mixed (M := Dr [] c l t R) rfl h2 h4 (by omega)
        refine ⟨[], f, t + 1, fun x hx => by simp at hx, hf, by omega, by omega, ?_⟩
        rw [if_neg (by simp)]
        simp only [dCallF_eq, dCons_eq, dNil_eq, dVar_0, bind_ok, e, thn_ok, dC_eq, put_left]
      | cons x g =>
        refine ⟨g, x, t, fun y hy => h1 y (List.mem_cons_of_mem _ hy), h1 x List.mem_cons_self, h4, by omega, ?_⟩
        rw [if_pos (by simp)]
        simp only [dMt_own, dBin_eq, dVar_0, dC_eq, bind_ok, get_great, ofO_some', lst_own, dCons_eq, dNil_eq, pop_own, thn_ok, put_left]
    · rw [if_neg (by simp [hl])]
      exact ⟨g, l, t, h1, h3, h4, by omega, rfl⟩
  obtain ⟨g', l', t', k1, k2, k3, k4, e⟩ := run
  refine ⟨l' % m, Dr g' c (l' / m) t' R, ?_, Int.emod_nonneg _ (by omega), Int.emod_lt_of_pos _ hm, ⟨g', c, l' / m, t', rfl, k1, h2, Int.ediv_nonneg k2 (by omega), k3, k4⟩⟩
  rw [F__law_take, fnD_eq]
  show outR (b__law_take [some (.own 1), some (.int m), none] (Dr g c l t R)) = _
  rw [b__law_take, sSq_eq, e, seq_nx, take_tail k2 hm hm2]
  rfl
/-- an item of a list that is drawn -/
theorem pick {n : Int} {R M : Sto} {ds : List D} (h : Dv n R M) (hn : n < 1000000000) (h0 : ds ≠ []) (h1 : ds.length < 1000000) : ∃ d M', F__law_pick [.own 1, .lst ds] M = .ok d M' ∧ d ∈ ds ∧ Dv (n + 1) R M' := by
  have hp : 0 < ds.length := List.length_pos_iff.mpr h0
  obtain ⟨r, M', e, r0, r1, v⟩ := take (m := ds.length) h hn (by omega) (Nat.lt_trans (lg 63 (by decide) (by omega)) (by decide))
  have hr : r.toNat < ds.length := by omega
  refine ⟨ds[r.toNat], M', ?_, List.getElem_mem hr, v⟩
  have hix : gIx M' (.lst ds) (.int r) = some ds[r.toNat] := by
    show atI ds r = _
    unfold atI
    rw [ixN_nn r0 r1]
    exact List.getElem?_eq_getElem hr
  have hlen : gLen M [.lst ds] = some (.int ds.length) := rfl
  rw [F__law_pick, fnD_eq]
  show outR (b__law_pick [some (.own 1), some (.lst ds)] M) = _
  rw [b__law_pick, sRt_eq]
  simp only [dBin_eq, dVar_s, dVar_0, bind_ok, dCallF_eq, dCons_eq, dCallB_eq, dNil_eq, hlen, ofO_some', e, hix, thn_ok, outR_rt]
/-- the draws from the script -/
theorem begun (ns : List Int) (hb : ns.length ≤ 1000) : ∃ M, F__law_begun [.flst (ns.map .int)] [] = .ok (.own 1) M ∧ Dv 0 [] M := by
  have w : ∀ (p : Int → Bool) (f : Int → Int) (ft : FE Bool) (fe : FE D) (x1 : Option D) (M : Sto), (∀ i ∈ ns, ft [some (.flst (ns.map .int)), x1, some (.int i)] M = .ok (p i) M) → (∀ i ∈ ns, p i = true → fe [some (.flst (ns.map .int)), x1, some (.int i)] M = .ok (.int (f i)) M) →
      lcD (.one 2) ft fe [2] [some (.flst (ns.map .int)), x1, none] (ns.map D.int) M = .ok (((ns.filter p).map f).map D.int) M := fun p f ft fe x1 M hp hf => by
    have z := lcD_map (ρ := [some (.flst (ns.map .int)), x1, none]) (M := M) (T := .one 2) (ft := ft) (fe := fe) (ws := [2]) (p := fun d => match d with | .int i => p i | _ => false) (f := fun d => match d with | .int i => .int (f i) | d => d) (ds := ns.map D.int) fun d hd => by
      obtain ⟨i, hi, rfl⟩ := List.mem_map.mp hd
      exact ⟨_, rfl, hp i hi, fun h => hf i hi h⟩
    rw [z]
    congr 1
    rw [List.filter_map, List.map_map, List.map_map]
    rfl
  have hle : ∀ (p : Int → Bool) (f : Int → Int), (((ns.filter p).map f).map D.int).length ≤ sizeLine := fun p f => by
    rw [List.length_map, List.length_map]
    exact szl (Nat.le_trans (List.length_filter_le _ _) hb)
  have pw : ∀ M : Sto, gPow M (.int 10) (.int 18) = some (.int (10 ^ 18)) := fun M => gPow_int ⟨by decide, by decide, by decide⟩
  have ab : ∀ (M : Sto) (i : Int), gAbs M [.int i] = some (.int (if i < 0 then -i else i)) := fun M i => rfl
  let g := (ns.filter fun i => decide ((10 : Int) ^ 18 ≤ if i < 0 then -i else i)).map fun i => (if i < 0 then -i else i) - 10 ^ 18
  let c := (ns.filter fun _ => true).map fun i => (if i < 0 then -i else i) % 2147483629
  have e1 := w (fun i => decide ((10 : Int) ^ 18 ≤ if i < 0 then -i else i)) (fun i => (if i < 0 then -i else i) - 10 ^ 18) (dTst (dBin gGe (dCallB gAbs (dCons (dVar 2) (dNil))) (dBin gPow (dC (.int 10)) (dC (.int 18))))) (dBin gSub (dCallB gAbs (dCons (dVar 2) (dNil))) (dBin gPow (dC (.int 10)) (dC (.int 18)))) none []
    (fun i _ => by simp only [dTst_eq, dBin_eq, dCallB_eq, dCons_eq, dNil_eq, dVar_s, dVar_0, dC_eq, bind_ok, ab, pw, ofO_some', gGe_int, asB_bl]) (fun i _ _ => by simp only [dBin_eq, dCallB_eq, dCons_eq, dNil_eq, dVar_s, dVar_0, dC_eq, bind_ok, ab, pw, ofO_some', gSub_int])
  have e2 := w (fun _ => true) (fun i => (if i < 0 then -i else i) % 2147483629) dYes (dBin gMod (dCallB gInt1 (dCons (dCallB gAbs (dCons (dVar 2) (dNil))) (dNil))) (dC (.int 2147483629))) (some (.own 0)) [.lst (g.map .int)]
    (fun i _ => rfl) (fun i _ _ => by simp only [dBin_eq, dCallB_eq, dCons_eq, dNil_eq, dVar_s, dVar_0, dC_eq, bind_ok, ab, ofO_some', gInt_int, gMod_int (M := [.lst (g.map .int)]) (j := 2147483629) (by decide)])
  refine ⟨Dr g c 0 0 [], ?_, ⟨g, c, 0, 0, rfl, fun x hx => ?_, fun x hx => ?_, Int.le_refl _, Int.le_refl _, Int.le_refl _⟩⟩
  · rw [F__law_begun, fnD_eq]
    show outR (b__law_begun [some (.flst (ns.map .int)), none, none] []) = _
    rw [b__law_begun, sSq_eq, sSet_eq, fLc_eq]
    simp only [iLst_eq, dVar_0, bind_ok, kLst_flst, lcI_fix, e1]
    have k1 : kLc true (.ok (g.map D.int) []) = .ok (.own 0) [.lst (g.map .int)] := if_pos (hle _ _)
    have k2 : kLc false (.ok (c.map D.int) [.lst (g.map .int)]) = .ok (.lst (c.map .int)) [.lst (g.map .int)] := if_pos (hle _ _)
    have e1' : kLc true (.ok (((ns.filter fun i => decide ((10 : Int) ^ 18 ≤ if i < 0 then -i else i)).map fun i => (if i < 0 then -i else i) - 10 ^ 18).map D.int) []) = .ok (.own 0) [.lst (g.map .int)] := k1
    rw [e1']
    simp only [thn_ok, List.set_cons_succ, List.set_cons_zero, seq_nx, sRt_eq]
    have cl : fLc false (iLst (dVar 0)) (.one 2) dYes (dBin gMod (dCallB gInt1 (dCons (dCallB gAbs (dCons (dVar 2) (dNil))) (dNil))) (dC (.int 2147483629))) [2] [some (.flst (ns.map .int)), some (.own 0), none] [.lst (g.map .int)] = .ok (.lst (c.map .int)) [.lst (g.map .int)] := by
      rw [fLc_eq]
      simp only [iLst_eq, dVar_0, bind_ok, kLst_flst, lcI_fix, e2]
      exact k2
    show outR ((((dPairs _ _ _).bind (kDisp true)) : Res D).thn _ _) = _
    simp only [dPairs, dC_eq, bind_ok, dVar_s, dVar_0, cl]
    rfl
  · obtain ⟨i, hi, rfl⟩ := List.mem_map.mp hx
    have z := of_decide_eq_true (List.mem_filter.mp hi).2
    omega
  · obtain ⟨i, hi, rfl⟩ := List.mem_map.mp hx
    exact ⟨Int.emod_nonneg _ (by decide), Int.emod_lt_of_pos _ (by decide)⟩
end K17
set_option maxHeartbeats 1000000
namespace K17
open PySem L2 DL
/-! ### numbers, pairs, prices -/
abbrev pr (p q : Int) : D := .tup [.int p, .int q]
def Base : D → Prop
  | .non => True
  | .bl _ => True
  | .int _ => True
  | .str _ => True
  | .tup _ => True
  | .lst _ => True
  | .dic _ _ => True
  | _ => False
def Good (d : D) : Prop := Base d ∧ ∀ ds, d = .tup ds → ∀ x ∈ ds, Base x
def isNum : D → Bool
  | .int _ => true
  | _ => false
def isPair : D → Bool
  | .tup [a, b] => isNum a && isNum b
  | _ => false
theorem num_ok (d : D) (M : Sto) (h : Base d) : F_is_number [d] M = .ok (.bl (isNum d)) M := by
  rw [F_is_number, fnD_eq]
  show outR (b_is_number [some d] M) = _
  rw [b_is_number]
  cases d <;> first | exact h.elim | (simp [isNum]; try rfl)
theorem pair_ok (d : D) (M : Sto) (h : Good d) : F_is_pair [d] M = .ok (.bl (isPair d)) M := by
  rw [F_is_pair, fnD_eq]
  show outR (b_is_pair [some d] M) = _
  rw [b_is_pair]
  cases d with
  | tup ds =>
    have hl : gLen M [.tup ds] = some (.int ds.length) := rfl
    have h2 := h.2 ds rfl
    match ds, h2 with
    | [], _ => simp [hl, isPair]
    | [a], _ => simp [hl, isPair]
    | a :: b :: c :: l, _ =>
      have e : ¬ ((l.length : Int) + 1 + 1 + 1 = 2) := by omega
      simp [hl, isPair, e]
    | [a, b], h2 =>
      have i0 : gIx M (.tup [a, b]) (.int 0) = some a := rfl
      have i1 : gIx M (.tup [a, b]) (.int 1) = some b := rfl
      have na := num_ok a M (h2 a (by simp))
      have nb := num_ok b M (h2 b (by simp))
      simp [hl, i0, i1, na, nb, isPair]
      cases isNum a <;> simp
  | own n => exact h.1.elim
  | obj c f v => exact h.1.elim
  | exc c f v => exact h.1.elim
  | flst l => exact h.1.elim
  | _ => simp [isPair]
def g2 (p q : Int) : Int := ((Nat.gcd p.natAbs q.natAbs : Nat) : Int)
def isPrice : D → Bool
  | .tup [.int p, .int q] => decide (0 ≤ p) && (decide (0 ≤ q) && decide (g2 p q = 1))
  | _ => false
theorem price_pr (p q : Int) (M : Sto) : F_is_price [pr p q] M = .ok (.bl (isPrice (pr p q))) M := by
  rw [F_is_price, fnD_eq]
  show outR (b_is_price [some (pr p q)] M) = _
  rw [b_is_price]
  have i0 : gIx M (pr p q) (.int 0) = some (.int p) := rfl
  have i1 : gIx M (pr p q) (.int 1) = some (.int q) := rfl
  have hp := pair_ok (pr p q) M ⟨trivial, fun ds e x hx => by cases e; simp at hx; rcases hx with rfl | rfl <;> trivial⟩
  have hg : gGcd M [.int p, .int q] = some (.int (g2 p q)) := rfl
  simp [i0, i1, hp, hg, isPair, isNum, isPrice]
  by_cases h1 : 0 ≤ p
  · by_cases h2 : 0 ≤ q
    · simp [h1, h2]
    · simp [h1, h2]
  · simp [h1]
theorem notp {d : D} (h : isPair d = false) : isPrice d = false := by
  unfold isPrice
  split
  · cases h
  · rfl
theorem price_ok (d : D) (M : Sto) (h : Good d) : F_is_price [d] M = .ok (.bl (isPrice d)) M := by
  by_cases hp : isPair d = true
  · unfold isPair at hp
    split at hp
    · rename_i a b
      cases a <;> cases b <;> first | exact price_pr _ _ M | (simp [isNum] at hp)
    · cases hp
  · have hp : isPair d = false := by simpa using hp
    rw [F_is_price, fnD_eq]
    show outR (b_is_price [some d] M) = _
    rw [b_is_price]
    simp [pair_ok d M h, hp, notp hp]
/-! ### the law's own gcd -/
theorem gcd_loop {M : Sto} : ∀ (m : Nat) (ds : List D) (p q : Nat) (x : Option D), q < 2 ^ m → 2 * m + 1 ≤ ds.length →
    forD (gNm 2) (sSq (sIf (dTst (dBin gEq (dVar 1) (dC (.int 0)))) (sRt (dVar 0)) (sNx)) (sPar 0 1 (dVar 1) (dBin gMod (dCallB gInt1 (dCons (dVar 0) (dNil))) (dVar 1)))) ds [some (.int (p : Int)), some (.int (q : Int)), x] M = .rt (.int ((Nat.gcd p q : Nat) : Int)) M
  | m, [], _, _, _, _, h => by simp at h
  | m, [d], p, q, x, hq, h => by
    have hm : m = 0 := by simp at h; omega
    subst hm
    have h0 : q = 0 := by omega
    subst h0
    rw [forD_cons, stp_nm]
    simp
  | m, d :: e :: ds, p, q, x, hq, h => by
    rw [forD_cons, stp_nm]
    by_cases h0 : q = 0
    · subst h0
      simp
    · have hq0 : (0 : Int) < (q : Int) := by omega
      have hq1 : ¬ ((q : Int) = 0) := by omega
      have st : ∀ (a b : Nat) (y : Option D), b ≠ 0 → (sSq (sIf (dTst (dBin gEq (dVar 1) (dC (.int 0)))) (sRt (dVar 0)) (sNx)) (sPar 0 1 (dVar 1) (dBin gMod (dCallB gInt1 (dCons (dVar 0) (dNil))) (dVar 1)))) [some (.int (a : Int)), some (.int (b : Int)), y] M = .nx [some (.int (b : Int)), some (.int ((a % b : Nat) : Int)), y] M := fun a b y hb => by
        have b0 : (0 : Int) < (b : Int) := by omega
        have b1 : ¬ ((b : Int) = 0) := by omega
        simp only [sSq_eq, sIf_eq, dTst_eq, dBin_eq, dVar_s, dVar_0, dC_eq, bind_ok, ofO_some', gEq_int, asB_bl, thn_ok, b1, decide_false, Bool.false_eq_true, if_false, sNx_eq, seq_nx, sPar_eq, dCallB_eq, dCons_eq, dNil_eq, gInt_int, gMod_int (M := M) (i := (a : Int)) b0, List.set_cons_succ, List.set_cons_zero]
        rfl
      simp only [List.set_cons_succ, List.set_cons_zero]
      rw [st p q _ h0, aft_nx, forD_cons, stp_nm]
      simp only [List.set_cons_succ, List.set_cons_zero]
      by_cases h1 : p % q = 0
      · rw [h1]
        simp
        rw [Nat.gcd_comm, Nat.gcd_rec, h1, Nat.gcd_zero_left]
      · rw [st q (p % q) _ h1, aft_nx]
        match m, hq, h with
        | 0, hq, h => omega
        | m + 1, hq, h =>
          have r1 : p % q < q := Nat.mod_lt _ (by omega)
          have r2 : q % (p % q) < p % q := Nat.mod_lt _ (by omega)
          have r3 : q % (p % q) ≤ q - p % q := by
            have z := Nat.mod_add_div q (p % q)
            have z2 : 1 ≤ q / (p % q) := (Nat.one_le_div_iff (by omega)).mpr (by omega)
            have z3 : p % q ≤ p % q * (q / (p % q)) := Nat.le_mul_of_pos_right _ z2
            omega
          have r4 : q % (p % q) < 2 ^ m := by
            have z : 2 ^ (m + 1) = 2 * 2 ^ m := by rw [Nat.pow_succ, Nat.mul_comm]
            omega
          rw [gcd_loop m ds (p % q) (q % (p % q)) _ r4 (by simp at h; omega)]
          have e1 : Nat.gcd p q = Nat.gcd (p % q) q := by rw [Nat.gcd_comm, Nat.gcd_rec]
          have e2 : Nat.gcd (p % q) q = Nat.gcd (q % (p % q)) (p % q) := Nat.gcd_rec _ _
          rw [e1, e2, Nat.gcd_comm]
end K17
set_option maxHeartbeats 1000000
namespace K17
open PySem L2 DL
theorem lgcd {p q : Int} (M : Sto) (hp : 0 ≤ p) (hq : 0 ≤ q) (hs : q < 2 ^ 200) : F__law_gcd [.int p, .int q] M = .ok (.int (g2 p q)) M := by
  obtain ⟨a, rfl⟩ := Int.eq_ofNat_of_zero_le hp
  obtain ⟨b, rfl⟩ := Int.eq_ofNat_of_zero_le hq
  have hb : b < 2 ^ 200 := by
    have z : ((2 : Int) ^ 200) = ((2 ^ 200 : Nat) : Int) := by norm_cast
    rw [z] at hs
    omega
  have e := gcd_loop (M := M) 200 (intUp 0 3000) a b none hb (by rw [intUp_len]; decide)
  have hr : small62 3000 = true := by decide
  rw [F__law_gcd, fnD_eq]
  show outR (b__law_gcd [some (.int (a : Int)), some (.int (b : Int)), none] M) = _
  rw [b__law_gcd, sSq_eq, sFor_eq]
  simp only [iRg1_eq, dCons_eq, dNil_eq, dC_eq, bind_ok, kRg1_int hr, thn_ok, forI_fix]
  have z : (3000 : Int).toNat = 3000 := rfl
  rw [z, e]
  rfl
/-- not both 0, of less than 100 bits -/
structure Nz (p q : Int) : Prop where
  p0 : 0 ≤ p
  q0 : 0 ≤ q
  ps : p < 2 ^ 100
  qs : q < 2 ^ 100
  nz : ¬ (p = 0 ∧ q = 0)
theorem Nz.pos {p q : Int} (h : Nz p q) : 0 < g2 p q := by
  unfold g2
  have : 0 < Nat.gcd p.natAbs q.natAbs := by
    apply Nat.pos_of_ne_zero
    intro z
    obtain ⟨a, b⟩ := Nat.gcd_eq_zero_iff.mp z
    exact h.nz ⟨Int.natAbs_eq_zero.mp a, Int.natAbs_eq_zero.mp b⟩
  omega
theorem Nz.small {p q : Int} (h : Nz p q) : (g2 p q).natAbs.log2 < 9000 := by
  have hg : (g2 p q).natAbs < 2 ^ 100 := by
    unfold g2
    rw [Int.natAbs_natCast]
    by_cases hp : p = 0
    · subst hp
      rw [Int.natAbs_zero, Nat.gcd_zero_left]
      have := h.qs; have := h.q0
      have z : ((2 : Int) ^ 100) = ((2 ^ 100 : Nat) : Int) := by norm_cast
      omega
    · have z : Nat.gcd p.natAbs q.natAbs ≤ p.natAbs := Nat.gcd_le_left _ (Int.natAbs_pos.mpr hp)
      have := h.ps; have := h.p0
      have z : ((2 : Int) ^ 100) = ((2 ^ 100 : Nat) : Int) := by norm_cast
      omega
  exact Nat.lt_trans (lg 100 (by decide) hg) (by decide)
/-- the pair in least terms -/
abbrev tm (p q : Int) : D := pr (p / g2 p q) (q / g2 p q)
theorem terms {p q : Int} (M : Sto) (h : Nz p q) : F_least_terms [.int p, .int q] M = .ok (tm p q) M := by
  have hg : gGcd M [.int p, .int q] = some (.int (g2 p q)) := rfl
  have s2 : (2 : Nat) ≤ sizeLine := szl (by decide)
  rw [F_least_terms, fnD_eq]
  show outR (b_least_terms [some (.int p), some (.int q), none] M) = _
  rw [b_least_terms]
  simp [hg, gDiv_int (M := M) (i := p) h.pos h.small, gDiv_int (M := M) (i := q) h.pos h.small, s2]
theorem lterms {p q : Int} (M : Sto) (h : Nz p q) : F__law_terms [.int p, .int q] M = .ok (tm p q) M := by
  have s2 : (2 : Nat) ≤ sizeLine := szl (by decide)
  have hq : q < 2 ^ 200 := Int.lt_trans h.qs (by decide +kernel)
  rw [F__law_terms, fnD_eq]
  show outR (b__law_terms [some (.int p), some (.int q), none] M) = _
  rw [b__law_terms]
  simp [lgcd M h.p0 h.q0 hq, gDiv_int (M := M) (i := p) h.pos h.small, gDiv_int (M := M) (i := q) h.pos h.small, s2]
theorem price_iff {p q : Int} : isPrice (pr p q) = true ↔ 0 ≤ p ∧ 0 ≤ q ∧ g2 p q = 1 := by simp [isPrice]
/-- least terms are a price -/
theorem tm_price {p q : Int} (h : Nz p q) : isPrice (tm p q) = true := by
  rw [price_iff]
  have hp := h.pos
  refine ⟨Int.ediv_nonneg h.p0 (by omega), Int.ediv_nonneg h.q0 (by omega), ?_⟩
  obtain ⟨a, rfl⟩ := Int.eq_ofNat_of_zero_le h.p0
  obtain ⟨b, rfl⟩ := Int.eq_ofNat_of_zero_le h.q0
  unfold g2 at hp ⊢
  simp only [Int.natAbs_natCast] at hp ⊢
  have e1 : ((a : Int) / ((Nat.gcd a b : Nat) : Int)).natAbs = a / Nat.gcd a b := rfl
  have e2 : ((b : Int) / ((Nat.gcd a b : Nat) : Int)).natAbs = b / Nat.gcd a b := rfl
  rw [e1, e2, Nat.gcd_div (Nat.gcd_dvd_left a b) (Nat.gcd_dvd_right a b), Nat.div_self (by omega)]
  rfl
theorem price_nz {p q : Int} (h : isPrice (pr p q) = true) (hp : p < 2 ^ 100) (hq : q < 2 ^ 100) : Nz p q := by
  obtain ⟨h1, h2, h3⟩ := price_iff.mp h
  refine ⟨h1, h2, hp, hq, fun z => ?_⟩
  rw [z.1, z.2] at h3
  cases h3
/-- a price is its own least terms -/
theorem tm_self {p q : Int} (h : isPrice (pr p q) = true) : tm p q = pr p q := by
  obtain ⟨h1, h2, h3⟩ := price_iff.mp h
  show pr (p / g2 p q) (q / g2 p q) = pr p q
  rw [h3, Int.ediv_one, Int.ediv_one]
theorem lprice_ok (d : D) (M : Sto) (h : Good d) (hs : ∀ p q, d = pr p q → q < 2 ^ 200) : F__law_is_price [d] M = .ok (.bl (isPrice d)) M := by
  have hpair : F__law_is_pair [d] M = .ok (.bl (isPair d)) M := pair_ok d M h
  rw [F__law_is_price, fnD_eq]
  show outR (b__law_is_price [some d] M) = _
  rw [b__law_is_price]
  by_cases hp : isPair d = true
  · unfold isPair at hp
    split at hp
    · rename_i a b
      obtain ⟨p, rfl⟩ : ∃ p, a = .int p := by cases a <;> first | exact ⟨_, rfl⟩ | (simp [isNum] at hp)
      obtain ⟨q, rfl⟩ : ∃ q, b = .int q := by cases b <;> first | exact ⟨_, rfl⟩ | (simp [isNum] at hp)
      have i0 : gIx M (pr p q) (.int 0) = some (.int p) := rfl
      have i1 : gIx M (pr p q) (.int 1) = some (.int q) := rfl
      have hq := hs p q rfl
      by_cases h1 : 0 ≤ p
      · by_cases h2 : 0 ≤ q
        · simp [i0, i1, hpair, isPair, isNum, isPrice, h1, h2, lgcd M h1 h2 hq]
        · simp [i0, i1, hpair, isPair, isNum, isPrice, h1, h2]
      · simp [i0, i1, hpair, isPair, isNum, isPrice, h1]
    · cases hp
  · have hp : isPair d = false := by simpa using hp
    simp [hpair, hp, notp hp]
end K17
set_option maxHeartbeats 1000000
namespace K17
open PySem L2 DL
theorem good_pr (p q : Int) : Good (pr p q) := ⟨trivial, fun ds e x hx => by cases e; simp at hx; rcases hx with rfl | rfl <;> trivial⟩
theorem ix0 (M : Sto) (a b : D) : gIx M (.tup [a, b]) (.int 0) = some a := rfl
theorem ix1 (M : Sto) (a b : D) : gIx M (.tup [a, b]) (.int 1) = some b := rfl
/-- small: less than 70 bits -/
def Sm (i : Int) : Prop := i.natAbs < 2 ^ 70
theorem mulS {M : Sto} {i j : Int} (h : Sm i) (k : Sm j) : gMul M (.int i) (.int j) = some (.int (i * j)) := gMul_int (by
  have l1 := lg 70 (by decide) h
  have l2 := lg 70 (by decide) k
  omega)
theorem need_pair (d : D) (M : Sto) (h : Good d) : F_need_pair [d] M = if isPair d = true then .ok .non M else .exc 3 [] [] M := by
  rw [F_need_pair, fnD_eq]
  show outR (b_need_pair [some d] M) = _
  rw [b_need_pair]
  simp [pair_ok d M h]
  cases isPair d <;> simp
theorem need_price (d : D) (M : Sto) (h : Good d) : F_need_price [d] M = if isPrice d = true then .ok .non M else .exc 1 [] [] M := by
  rw [F_need_price, fnD_eq]
  show outR (b_need_price [some d] M) = _
  rw [b_need_price]
  simp [price_ok d M h]
  cases isPrice d <;> simp
theorem leads {p q r s : Int} (M : Sto) (hp : Sm p) (hq : Sm q) (hr : Sm r) (hs : Sm s) : F_leads [pr p q, pr r s] M = .ok (.bl (decide (r * q < p * s))) M := by
  rw [F_leads, fnD_eq]
  show outR (b_leads [some (pr p q), some (pr r s)] M) = _
  rw [b_leads]
  simp [ix0, ix1, mulS hp hs, mulS hr hq]
theorem ahead_ok {p q r s : Int} (M : Sto) (h1 : isPrice (pr p q) = true) (h2 : isPrice (pr r s) = true) (hp : Sm p) (hq : Sm q) (hr : Sm r) (hs : Sm s) : F_is_ahead [pr p q, pr r s] M = .ok (.bl (decide (r * q < p * s))) M := by
  rw [F_is_ahead, fnD_eq]
  show outR (b_is_ahead [some (pr p q), some (pr r s)] M) = _
  rw [b_is_ahead]
  simp [need_price _ M (good_pr p q), need_price _ M (good_pr r s), h1, h2, leads M hp hq hr hs]
theorem ahead_x1 {d e : D} (M : Sto) (hd : Good d) (h : isPrice d = false) : F_is_ahead [d, e] M = .exc 1 [] [] M := by
  rw [F_is_ahead, fnD_eq]
  show outR (b_is_ahead [some d, some e] M) = _
  rw [b_is_ahead]
  simp [need_price _ M hd, h]
theorem ahead_x2 {d e : D} (M : Sto) (hd : Good d) (h : isPrice d = true) (he : Good e) (h2 : isPrice e = false) : F_is_ahead [d, e] M = .exc 1 [] [] M := by
  rw [F_is_ahead, fnD_eq]
  show outR (b_is_ahead [some d, some e] M) = _
  rw [b_is_ahead]
  simp [need_price _ M hd, h, need_price _ M he, h2]
theorem weight {a b p q : Int} (M : Sto) (ha : Sm a) (hb : Sm b) (hp : Sm p) (hq : Sm q) : F_weight [pr a b, pr p q] M = .ok (.int (p * a + q * b)) M := by
  rw [F_weight, fnD_eq]
  show outR (b_weight [some (pr a b), some (pr p q)] M) = _
  rw [b_weight]
  simp [ix0, ix1, mulS hp ha, mulS hq hb]
theorem worth_ok {a b p q : Int} (M : Sto) (h : isPrice (pr p q) = true) (ha : Sm a) (hb : Sm b) (hp : Sm p) (hq : Sm q) : F_worth [pr a b, pr p q] M = .ok (.int (p * a + q * b)) M := by
  rw [F_worth, fnD_eq]
  show outR (b_worth [some (pr a b), some (pr p q)] M) = _
  rw [b_worth]
  simp [need_pair _ M (good_pr a b), need_price _ M (good_pr p q), h, isPair, isNum, weight M ha hb hp hq]
theorem worth_x1 {d e : D} (M : Sto) (hd : Good d) (h : isPair d = false) : F_worth [d, e] M = .exc 3 [] [] M := by
  rw [F_worth, fnD_eq]
  show outR (b_worth [some d, some e] M) = _
  rw [b_worth]
  simp [need_pair _ M hd, h]
theorem worth_x2 {d e : D} (M : Sto) (hd : Good d) (h : isPair d = true) (he : Good e) (h2 : isPrice e = false) : F_worth [d, e] M = .exc 1 [] [] M := by
  rw [F_worth, fnD_eq]
  show outR (b_worth [some d, some e] M) = _
  rw [b_worth]
  simp [need_pair _ M hd, h, need_price _ M he, h2]
theorem lworth {a b p q : Int} (M : Sto) (ha : Sm a) (hb : Sm b) (hp : Sm p) (hq : Sm q) : F__law_worth [pr a b, pr p q] M = .ok (.int (p * a + q * b)) M := weight M ha hb hp hq
theorem lleads {p q r s : Int} (M : Sto) (hp : Sm p) (hq : Sm q) (hr : Sm r) (hs : Sm s) : F__law_leads [pr p q, pr r s] M = .ok (.bl (decide (r * q < p * s))) M := leads M hp hq hr hs
/-- the middle -/
theorem between {p q r s : Int} (M : Sto) (h : Nz (p + r) (q + s)) : F_between [pr p q, pr r s] M = .ok (tm (p + r) (q + s)) M := by
  rw [F_between, fnD_eq]
  show outR (b_between [some (pr p q), some (pr r s)] M) = _
  rw [b_between]
  simp [ix0, ix1, terms M h]
theorem amid_ok {p q r s : Int} (M : Sto) (h1 : isPrice (pr p q) = true) (h2 : isPrice (pr r s) = true) (hp : Sm p) (hq : Sm q) (hr : Sm r) (hs : Sm s) (h : Nz (p + r) (q + s)) (hl : r * q < p * s) : F_amid [pr p q, pr r s] M = .ok (tm (p + r) (q + s)) M := by
  rw [F_amid, fnD_eq]
  show outR (b_amid [some (pr p q), some (pr r s)] M) = _
  rw [b_amid]
  simp [ahead_ok M h1 h2 hp hq hr hs, hl, between M h]
theorem amid_x {p q r s : Int} (M : Sto) (h1 : isPrice (pr p q) = true) (h2 : isPrice (pr r s) = true) (hp : Sm p) (hq : Sm q) (hr : Sm r) (hs : Sm s) (hl : ¬ r * q < p * s) : F_amid [pr p q, pr r s] M = .exc 4 [] [] M := by
  rw [F_amid, fnD_eq]
  show outR (b_amid [some (pr p q), some (pr r s)] M) = _
  rw [b_amid]
  simp [ahead_ok M h1 h2 hp hq hr hs, hl]
theorem amid_x1 {d e : D} (M : Sto) (h : F_is_ahead [d, e] M = .exc 1 [] [] M) : F_amid [d, e] M = .exc 1 [] [] M := by
  rw [F_amid, fnD_eq]
  show outR (b_amid [some d, some e] M) = _
  rw [b_amid]
  simp [h]
/-! ### where two pairs are of one worth -/
def absI (i : Int) : Int := if i < 0 then -i else i
def meet (a b c d : Int) : D := if (a - c = 0 ∧ d - b = 0) ∨ (a - c) * (d - b) < 0 then .non else tm (absI (d - b)) (absI (a - c))
theorem alike {a b c d : Int} (M : Sto) (h1 : Sm (a - c)) (h2 : Sm (d - b)) : F_alike_at [pr a b, pr c d] M = .ok (meet a b c d) M := by
  have s2 : (2 : Nat) ≤ sizeLine := szl (by decide)
  have ab : ∀ (M : Sto) (i : Int), gAbs M [.int i] = some (.int (absI i)) := fun M i => rfl
  rw [F_alike_at, fnD_eq]
  show outR (b_alike_at [some (pr a b), some (pr c d), none, none] M) = _
  rw [b_alike_at]
  simp only [sSq_eq, sPar_eq, dBin_eq, dVar_s, dVar_0, dC_eq, bind_ok, ix0, ix1, ofO_some', gSub_int, thn_ok, List.set_cons_succ, List.set_cons_zero, seq_nx, sIf_eq, dOr_eq, dTst_eq, dTup_eq, dCons_eq, dNil_eq, List.length_cons, List.length_nil, if_pos s2, gEq_pr, asB_bl, mulS h1 h2, gLt_int, sRt_eq, sNx_eq, dCallF_eq, dCallB_eq, ab]
  unfold meet
  by_cases hz : a - c = 0 ∧ d - b = 0
  · rw [if_pos (by simp [hz.1, hz.2]), if_pos (.inl hz)]
    simp
  · rw [if_neg (by simpa using hz)]
    simp only [thn_ok]
    by_cases hn : (a - c) * (d - b) < 0
    · rw [if_pos (by simpa using hn), if_pos (.inr hn)]
      simp
    · rw [if_neg (by simpa using hn), if_neg (fun z => z.elim hz hn)]
      have n1 : absI (d - b) < 2 ^ 100 := by unfold absI; unfold Sm at h2; omega
      have n2 : absI (a - c) < 2 ^ 100 := by unfold absI; unfold Sm at h1; omega
      have nz : Nz (absI (d - b)) (absI (a - c)) := ⟨by unfold absI; omega, by unfold absI; omega, n1, n2, fun z => hz (by unfold absI at z; omega)⟩
      simp [ab, terms M nz]
theorem meeting_ok {a b c d : Int} (M : Sto) (h1 : Sm (a - c)) (h2 : Sm (d - b)) : F_meeting [pr a b, pr c d] M = .ok (meet a b c d) M := by
  rw [F_meeting, fnD_eq]
  show outR (b_meeting [some (pr a b), some (pr c d)] M) = _
  rw [b_meeting]
  simp [need_pair _ M (good_pr a b), need_pair _ M (good_pr c d), isPair, isNum, alike M h1 h2]
theorem meeting_x1 {d e : D} (M : Sto) (hd : Good d) (h : isPair d = false) : F_meeting [d, e] M = .exc 3 [] [] M := by
  rw [F_meeting, fnD_eq]
  show outR (b_meeting [some d, some e] M) = _
  rw [b_meeting]
  simp [need_pair _ M hd, h]
theorem meeting_x2 {d e : D} (M : Sto) (hd : Good d) (h : isPair d = true) (he : Good e) (h2 : isPair e = false) : F_meeting [d, e] M = .exc 3 [] [] M := by
  rw [F_meeting, fnD_eq]
  show outR (b_meeting [some d, some e] M) = _
  rw [b_meeting]
  simp [need_pair _ M hd, h, need_pair _ M he, h2]
/-- the law's own -/
theorem lmeet {a b c d : Int} (M : Sto) (h1 : Sm (a - c)) (h2 : Sm (d - b)) : F__law_meet [pr a b, pr c d] M = .ok (meet a b c d) M := by
  rw [F__law_meet, fnD_eq]
  show outR (b__law_meet [some (pr a b), some (pr c d), none, none] M) = _
  rw [b__law_meet]
  unfold Sm at h1 h2
  have fin : ∀ m l : Int, (m = a - c ∧ l = d - b) ∨ (m = -(a - c) ∧ l = -(d - b)) → (0 ≤ m → 0 ≤ l → True) → (m < 0 ∨ l < 0 → m + l = 0 ∨ True) →
      (m = a - c ∧ l = d - b → ¬ (a - c < 0 ∨ d - b < 0)) →
      (m = -(a - c) ∧ l = -(d - b) → (a - c < 0 ∨ d - b < 0) ∨ (m = a - c ∧ l = d - b)) →
      ((dIf (dOr (dTst (dBin gLt (dVar 2) (dC (.int 0)))) (dOr (dTst (dBin gLt (dVar 3) (dC (.int 0)))) (dTst (dBin gEq (dBin gAdd (dVar 2) (dVar 3)) (dC (.int 0)))))) (dC .non) (dCallF F__law_terms (dCons (dVar 3) (dCons (dVar 2) (dNil))))) [some (pr a b), some (pr c d), some (.int m), some (.int l)] M : Res D) = .ok (meet a b c d) M := by
    intro m l hml _ _ hA hB
    simp only [dIf_eq, dOr_eq, dTst_eq, dBin_eq, dVar_s, dVar_0, dC_eq, bind_ok, ofO_some', gLt_int, asB_bl, gAdd_int, gEq_int, dCallF_eq, dCons_eq, dNil_eq]
    unfold meet
    by_cases k1 : m < 0
    · rw [if_pos (by simpa using k1)]
      simp only [bind_ok, if_true]
      rw [if_pos]
      right
      rcases hml with ⟨e1, e2⟩ | ⟨e1, e2⟩
      · exact absurd (Or.inl (by omega)) (hA ⟨e1, e2⟩)
      · have p1 : 0 < a - c := by omega
        have p2 : d - b < 0 := by
          rcases hB ⟨e1, e2⟩ with (z | z) | z <;> omega
        exact Int.mul_neg_of_pos_of_neg p1 p2
    · rw [if_neg (by simpa using k1)]
      by_cases k2 : l < 0
      · rw [if_pos (by simpa using k2)]
        simp only [bind_ok, if_true]
        rw [if_pos]
        right
        rcases hml with ⟨e1, e2⟩ | ⟨e1, e2⟩
        · exact absurd (Or.inr (by omega)) (hA ⟨e1, e2⟩)
        · have p1 : 0 < d - b := by omega
          have p2 : a - c < 0 := by
            rcases hB ⟨e1, e2⟩ with (z | z) | z <;> omega
          exact Int.mul_neg_of_neg_of_pos p2 p1
      · rw [if_neg (by simpa using k2)]
        by_cases k3 : m + l = 0
        · simp only [bind_ok, k3, decide_true, if_true]
          rw [if_pos]
          left
          omega
        · simp only [bind_ok, k3, decide_false, Bool.false_eq_true, if_false]
          have nn : ¬ ((a - c = 0 ∧ d - b = 0) ∨ (a - c) * (d - b) < 0) := by
            rintro (z | z)
            · omega
            · rcases hml with ⟨e1, e2⟩ | ⟨e1, e2⟩
              · have := Int.mul_nonneg (show 0 ≤ a - c by omega) (show 0 ≤ d - b by omega)
                omega
              · have := Int.mul_nonneg (show 0 ≤ -(a - c) by omega) (show 0 ≤ -(d - b) by omega)
                rw [Int.neg_mul_neg] at this
                omega
          rw [if_neg nn]
          have em : m = absI (a - c) := by unfold absI; omega
          have el : l = absI (d - b) := by unfold absI; omega
          have nz : Nz l m := ⟨by omega, by omega, by omega, by omega, by omega⟩
          rw [lterms M nz, em, el]
  simp only [sSq_eq, sPar_eq, dBin_eq, dVar_s, dVar_0, dC_eq, bind_ok, ix0, ix1, ofO_some', gSub_int, thn_ok, List.set_cons_succ, List.set_cons_zero, seq_nx, sIf_eq, dOr_eq, dTst_eq, gLt_int, asB_bl, sRt_eq, sNx_eq]
  by_cases k1 : a - c < 0
  · rw [if_pos (by simpa using k1)]
    simp only [thn_ok, if_true, seq_nx]
    have := fin (0 - (a - c)) (0 - (d - b)) (.inr ⟨by omega, by omega⟩) (fun _ _ => trivial) (fun _ => .inr trivial) (fun z => by omega) (fun _ => .inl (.inl k1))
    rw [sRt_eq, this]
    rfl
  · rw [if_neg (by simpa using k1)]
    simp only [thn_ok]
    by_cases k2 : d - b < 0
    · rw [if_pos (by simpa using k2)]
      simp only [seq_nx]
      have := fin (0 - (a - c)) (0 - (d - b)) (.inr ⟨by omega, by omega⟩) (fun _ _ => trivial) (fun _ => .inr trivial) (fun z => by omega) (fun _ => .inl (.inr k2))
      rw [sRt_eq, this]
      rfl
    · rw [if_neg (by simpa using k2)]
      simp only [seq_nx]
      have := fin (a - c) (d - b) (.inl ⟨rfl, rfl⟩) (fun _ _ => trivial) (fun _ => .inr trivial) (fun _ z => by omega) (fun z => by omega)
      rw [sRt_eq, this]
      rfl
end K17
set_option maxHeartbeats 1000000
namespace K17
open PySem L2 DL
/-! ### price_of -/
theorem price_of {p q : Int} (M : Sto) (h : Nz p q) : F_price_of [.int p, .int q] M = .ok (tm p q) M := by
  have s2 : (2 : Nat) ≤ sizeLine := szl (by decide)
  have h1 : ¬ p < 0 := by have := h.p0; omega
  have h2 : ¬ q < 0 := by have := h.q0; omega
  have h3 : ¬ (p = 0 ∧ q = 0) := h.nz
  rw [F_price_of, fnD_eq]
  show outR (b_price_of [some (.int p), some (.int q)] M) = _
  rw [b_price_of]
  simp [num_ok (.int p) M trivial, num_ok (.int q) M trivial, isNum, h1, h2, s2, terms M h]
  by_cases k : p = 0
  · have k2 : ¬ q = 0 := fun z => h3 ⟨k, z⟩
    simp [k, k2]
    rw [k] at h
    rw [terms M h]
    rfl
  · simp [k]
    rw [terms M h]
    rfl
/-- no number from 0 -/
def badNum : D → Bool
  | .int i => decide (i < 0)
  | _ => true
theorem price_of_x1 {d : D} (M : Sto) (hd : Base d) (h : badNum d = true) : F_price_of [d, .int 1] M = .exc 2 [] [] M := by
  rw [F_price_of, fnD_eq]
  show outR (b_price_of [some d, some (.int 1)] M) = _
  rw [b_price_of]
  cases d with
  | int i =>
    have hi : i < 0 := by simpa [badNum] using h
    simp [num_ok (.int i) M trivial, num_ok (.int 1) M trivial, isNum, hi]
  | _ => first | exact hd.elim | simp [num_ok _ M hd, isNum]
theorem price_of_x2 {d : D} (M : Sto) (hd : Base d) (h : badNum d = true) : F_price_of [.int 1, d] M = .exc 2 [] [] M := by
  rw [F_price_of, fnD_eq]
  show outR (b_price_of [some (.int 1), some d] M) = _
  rw [b_price_of]
  cases d with
  | int i =>
    have hi : i < 0 := by simpa [badNum] using h
    simp [num_ok (.int i) M trivial, num_ok (.int 1) M trivial, isNum, hi]
  | _ => first | exact hd.elim | simp [num_ok _ M hd, num_ok (.int 1) M trivial, isNum]
theorem price_of_00 (M : Sto) : F_price_of [.int 0, .int 0] M = .exc 2 [] [] M := by
  have s2 : (2 : Nat) ≤ sizeLine := szl (by decide)
  rw [F_price_of, fnD_eq]
  show outR (b_price_of [some (.int 0), some (.int 0)] M) = _
  rw [b_price_of]
  simp [num_ok (.int 0) M trivial, isNum, s2]
/-! ### says, same -/
theorem says (a b : Bool) (M : Sto) : F__law_says [.bl a, .bl b] M = .ok (.bl (a == b)) M := by
  have e1 : gIs M (.bl a) (.bl true) = some (.bl (a == true)) := by cases a <;> rfl
  have e2 : gIs M (.bl a) (.bl false) = some (.bl (a == false)) := by cases a <;> rfl
  rw [F__law_says, fnD_eq]
  show outR (b__law_says [some (.bl a), some (.bl b)] M) = _
  rw [b__law_says]
  cases b <;> simp [e1, e2]
theorem same_of {d : D} {s : Str} (M : Sto) (h : gRepr M [d] = some (.str s)) : F__law_same [d, d] M = .ok (.bl true) M := by
  rw [F__law_same, fnD_eq]
  show outR (b__law_same [some d, some d] M) = _
  rw [b__law_same]
  simp [h]
theorem same_int {i : Int} (M : Sto) (h : i.natAbs < 2 ^ 200) : F__law_same [.int i, .int i] M = .ok (.bl true) M := same_of M (repr_int (Nat.lt_trans (lg 200 (by decide) h) (by decide)))
theorem same_non (M : Sto) : F__law_same [.non, .non] M = .ok (.bl true) M := same_of M repr_non
theorem same_pr {i j : Int} (M : Sto) (h : i.natAbs < 2 ^ 200) (k : j.natAbs < 2 ^ 200) : F__law_same [pr i j, pr i j] M = .ok (.bl true) M := by
  obtain ⟨s, e⟩ := repr_pr (M := M) (Nat.lt_trans (lg 200 (by decide) h) (by decide)) (Nat.lt_trans (lg 200 (by decide) k) (by decide))
  exact same_of M e
theorem tm_le {p q : Int} (h : Nz p q) : 0 ≤ p / g2 p q ∧ p / g2 p q ≤ p ∧ 0 ≤ q / g2 p q ∧ q / g2 p q ≤ q := by
  have hp := h.pos
  refine ⟨Int.ediv_nonneg h.p0 (by omega), Int.ediv_le_self _ h.p0, Int.ediv_nonneg h.q0 (by omega), Int.ediv_le_self _ h.q0⟩
theorem same_tm {p q : Int} (M : Sto) (h : Nz p q) : F__law_same [tm p q, tm p q] M = .ok (.bl true) M := by
  obtain ⟨h1, h2, h3, h4⟩ := tm_le h
  have := h.ps; have := h.qs
  exact same_pr M (by omega) (by omega)
theorem same_meet {a b c d : Int} (M : Sto) (h1 : Sm (a - c)) (h2 : Sm (d - b)) : F__law_same [meet a b c d, meet a b c d] M = .ok (.bl true) M := by
  unfold meet
  split
  · exact same_non M
  · rename_i hz
    unfold Sm at h1 h2
    refine same_tm M ⟨by unfold absI; omega, by unfold absI; omega, by unfold absI; omega, by unfold absI; omega, fun z => hz (.inl (by unfold absI at z; omega))⟩
/-! ### what is drawn -/
theorem tk {n : Int} {R M : Sto} (m : Int) (h : Dv n R M) (hn : n < 1000000) (hm : 0 < m) (hs : m < 2 ^ 100) : ∃ r M', F__law_take [.own 1, .int m] M = .ok (.int r) M' ∧ 0 ≤ r ∧ r < m ∧ Dv (n + 1) R M' :=
  take h (by omega) hm (Nat.lt_trans (lg 100 (by decide) (by omega)) (by decide))
theorem pw (M : Sto) (k : Int) (h : 0 ≤ k ∧ k ≤ 100) : gPow M (.int 10) (.int k) = some (.int (10 ^ k.toNat)) := gPow_int ⟨h.1, by omega, by decide⟩
theorem amount {n : Int} {R M : Sto} (h : Dv n R M) (hn : n < 100000) : ∃ r M', F__law_amount [.own 1] M = .ok (.int r) M' ∧ 0 ≤ r ∧ r < 1000000000000 ∧ Dv (n + 2) R M' := by
  obtain ⟨w, M1, e1, w0, w1, v1⟩ := tk 4 h (by omega) (by decide) (by decide)
  obtain ⟨a, M2, e2, a0, a1, v2⟩ := tk 3 v1 (by omega) (by decide) (by decide)
  obtain ⟨b, M3, e3, b0, b1, v3⟩ := tk 10 v1 (by omega) (by decide) (by decide)
  obtain ⟨c, M4, e4, c0, c1, v4⟩ := tk 1000000000000 v1 (by omega) (by decide) (by decide)
  have hp : ∀ M : Sto, gPow M (.int 10) (.int 12) = some (.int 1000000000000) := fun M => pw M 12 ⟨by decide, by decide⟩
  have run : F__law_amount [.own 1] M = outR (b__law_amount [some (.own 1), none] M) := by rw [F__law_amount, fnD_eq]; rfl
  by_cases k0 : w = 0
  · refine ⟨a, M2, ?_, a0, by omega, v2.mono (by omega)⟩
    rw [run, b__law_amount]
    simp [e1, k0, e2]
  · by_cases k3 : w < 3
    · refine ⟨b, M3, ?_, b0, by omega, v3.mono (by omega)⟩
      rw [run, b__law_amount]
      simp [e1, k0, k3, e3]
    · refine ⟨c, M4, ?_, c0, by omega, v4.mono (by omega)⟩
      rw [run, b__law_amount]
      simp [e1, k0, k3, hp, e4]
theorem peak {n : Int} {R M : Sto} (h : Dv n R M) (hn : n < 100000) : ∃ r M', F__law_peak [.own 1] M = .ok (.int r) M' ∧ 1 ≤ r ∧ r < 100000000000 ∧ Dv (n + 1) R M' := by
  obtain ⟨d, M1, e1, hd, v1⟩ := pick (ds := [.int 1, .int 2, .int 3, .int 3, .int 9, .int 99999999999]) h (by omega) (by simp) (by simp)
  have hp : ∀ M : Sto, gPow M (.int 10) (.int 11) = some (.int 100000000000) := fun M => pw M 11 ⟨by decide, by decide⟩
  have s6 : (6 : Nat) ≤ sizeLine := szl (by decide)
  obtain ⟨r, rfl, r0, r1⟩ : ∃ r, d = .int r ∧ 1 ≤ r ∧ r < 100000000000 := by
    simp at hd
    rcases hd with rfl | rfl | rfl | rfl | rfl <;> exact ⟨_, rfl, by decide, by decide⟩
  refine ⟨r, M1, ?_, r0, r1, v1⟩
  rw [F__law_peak, fnD_eq]
  show outR (b__law_peak [some (.own 1)] M) = _
  rw [b__law_peak]
  simp [hp, s6, e1]
theorem dpair {n k : Int} {R M : Sto} (h : Dv n R M) (hn : n < 100000) (k0 : 1 ≤ k) (k1 : k < 100000000000) : ∃ x y M', F__law_pair [.own 1, .int k] M = .ok (pr x y) M' ∧ -k ≤ x ∧ x ≤ k ∧ -k ≤ y ∧ y ≤ k ∧ Dv (n + 2) R M' := by
  obtain ⟨a, M1, e1, a0, a1, v1⟩ := tk (2 * k + 1) h (by omega) (by omega) (by omega)
  obtain ⟨b, M2, e2, b0, b1, v2⟩ := tk (2 * k + 1) v1 (by omega) (by omega) (by omega)
  have s2 : (2 : Nat) ≤ sizeLine := szl (by decide)
  have m2 : ∀ M : Sto, gMul M (.int 2) (.int k) = some (.int (2 * k)) := fun M => mulS (by unfold Sm; decide) (by unfold Sm; omega)
  refine ⟨a - k, b - k, M2, ?_, by omega, by omega, by omega, by omega, v2.mono (by omega)⟩
  rw [F__law_pair, fnD_eq]
  show outR (b__law_pair [some (.own 1), some (.int k)] M) = _
  rw [b__law_pair]
  simp [m2, e1, e2, s2]
/-- a price of less than 10 ** 11 in both -/
structure Spot (p q : Int) : Prop where
  pc : isPrice (pr p q) = true
  ps : p < 100000000000
  qs : q < 100000000000
theorem Spot.nn {p q : Int} (h : Spot p q) : 0 ≤ p ∧ 0 ≤ q := ⟨(price_iff.mp h.pc).1, (price_iff.mp h.pc).2.1⟩
theorem Spot.sm {p q : Int} (h : Spot p q) : Sm p ∧ Sm q := by
  have := h.nn; have := h.ps; have := h.qs
  exact ⟨by unfold Sm; omega, by unfold Sm; omega⟩
theorem spot_tm {p q : Int} (hp : 0 ≤ p) (hq : 0 ≤ q) (ps : p < 100000000000) (qs : q < 100000000000) (hz : ¬ p + q = 0) : Nz p q ∧ Spot (p / g2 p q) (q / g2 p q) := by
  have nz : Nz p q := ⟨hp, hq, by omega, by omega, by omega⟩
  obtain ⟨h1, h2, h3, h4⟩ := tm_le nz
  exact ⟨nz, tm_price nz, by omega, by omega⟩
theorem spot {n : Int} {R M : Sto} (h : Dv n R M) (hn : n < 100000) : ∃ p q M', F__law_spot [.own 1] M = .ok (pr p q) M' ∧ Spot p q ∧ Dv (n + 5) R M' := by
  obtain ⟨w, M1, e1, w0, w1, v1⟩ := tk 8 h (by omega) (by decide) (by decide)
  obtain ⟨a, M2, e2, a0, a1, v2⟩ := tk 6 v1 (by omega) (by decide) (by decide)
  obtain ⟨b, M3, e3, b0, b1, v3⟩ := tk 6 v2 (by omega) (by decide) (by decide)
  obtain ⟨c, M4, e4, c0, c1, v4⟩ := tk 100000000000 v3 (by omega) (by decide) (by decide)
  obtain ⟨d, M5, e5, d0, d1, v5⟩ := tk 100000000000 v4 (by omega) (by decide) (by decide)
  have hp : ∀ M : Sto, gPow M (.int 10) (.int 11) = some (.int 100000000000) := fun M => pw M 11 ⟨by decide, by decide⟩
  have s2 : (2 : Nat) ≤ sizeLine := szl (by decide)
  have run : F__law_spot [.own 1] M = outR (b__law_spot [some (.own 1), none, none, none] M) := by rw [F__law_spot, fnD_eq]; rfl
  have p11 : Spot 1 1 := ⟨by decide, by decide, by decide⟩
  by_cases k2 : w < 2
  · by_cases k0 : w = 0
    · refine ⟨1, 0, M1, ?_, ⟨by decide, by decide, by decide⟩, v1.mono (by omega)⟩
      have hi : gIx M1 (.lst [pr 1 0, pr 0 1]) (.int 0) = some (pr 1 0) := rfl
      rw [run, b__law_spot]
      simp [e1, k0, s2, hi]
    · have k1 : w = 1 := by omega
      refine ⟨0, 1, M1, ?_, ⟨by decide, by decide, by decide⟩, v1.mono (by omega)⟩
      have hi : gIx M1 (.lst [pr 1 0, pr 0 1]) (.int 1) = some (pr 0 1) := rfl
      rw [run, b__law_spot]
      simp [e1, k1, s2, hi]
  · by_cases k7 : w = 7
    · have n7 : ¬ (7 : Int) < 2 := by decide
      by_cases z : c + d = 0
      · refine ⟨1, 1, M5, ?_, p11, v5.mono (by omega)⟩
        rw [run, b__law_spot]
        simp [e1, k7, n7, e2, e3, hp, e4, e5, z, s2]
      · obtain ⟨nz, sp⟩ := spot_tm c0 d0 c1 d1 z
        refine ⟨_, _, M5, ?_, sp, v5.mono (by omega)⟩
        rw [run, b__law_spot]
        simp [e1, k7, n7, e2, e3, hp, e4, e5, z, s2, lterms M5 nz]
    · by_cases z : a + b = 0
      · refine ⟨1, 1, M3, ?_, p11, v3.mono (by omega)⟩
        rw [run, b__law_spot]
        simp [e1, k7, k2, e2, e3, z, s2]
      · obtain ⟨nz, sp⟩ := spot_tm a0 b0 (by omega) (by omega) z
        refine ⟨_, _, M3, ?_, sp, v3.mono (by omega)⟩
        rw [run, b__law_spot]
        simp [e1, k7, k2, e2, e3, z, s2, lterms M3 nz]
end K17
set_option maxHeartbeats 2000000
namespace K17
open PySem L2 DL
def odds : List D := [.non, .bl true, .int 1, .str "over", .lst [.int 1, .int 0], .tup [.int 1], .tup [.int 1, .int 0, .int 0], .tup [.bl true, .int 0], .tup [.int 1, .bl false], .tup [.str "1", .int 0], .tup [.int 1, .non], .dic [] [], .tup [.tup [.int 1, .int 0], .int 0], .tup []]
theorem odds_ok : ∀ d ∈ odds, Good d ∧ isPair d = false := by
  intro d hd
  simp [odds] at hd
  rcases hd with rfl | rfl | rfl | rfl | rfl | rfl | rfl | rfl | rfl | rfl | rfl | rfl | rfl | rfl <;>
    exact ⟨⟨trivial, fun ds e x hx => by cases e <;> (simp at hx; try (rcases hx with rfl | rfl | rfl | rfl <;> trivial); try (rcases hx with rfl | rfl <;> trivial); try (subst hx; trivial))⟩, rfl⟩
theorem strange {n : Int} {R M : Sto} (h : Dv n R M) (hn : n < 100000) : ∃ d M', F__law_strange [.own 1] M = .ok d M' ∧ Good d ∧ isPair d = false ∧ Dv (n + 1) R M' := by
  obtain ⟨d, M1, e1, hd, v1⟩ := pick (ds := odds) h (by omega) (by simp [odds]) (by simp [odds])
  obtain ⟨g, p⟩ := odds_ok d hd
  have s0 : (0 : Nat) ≤ sizeLine := Nat.zero_le _
  have s1 : (1 : Nat) ≤ sizeLine := szl (by decide)
  have s2 : (2 : Nat) ≤ sizeLine := szl (by decide)
  have s3 : (3 : Nat) ≤ sizeLine := szl (by decide)
  have s14 : (14 : Nat) ≤ sizeLine := szl (by decide)
  refine ⟨d, M1, ?_, g, p, v1⟩
  rw [F__law_strange, fnD_eq]
  show outR (b__law_strange [some (.own 1), none] M) = _
  have dn : ∀ ρ (M : Sto), dNew false ρ M = .ok (.dic [] []) M := fun _ _ => rfl
  unfold odds at e1
  rw [b__law_strange]
  simp only [sSq_eq, sSet_eq, dLst_eq, dCons_eq, dNil_eq, dC_eq, bind_ok, dTup_eq, List.length_cons, List.length_nil, dn, Nat.zero_add, Nat.reduceAdd, if_pos s0, if_pos s1, if_pos s2, if_pos s3, if_pos s14, thn_ok, List.set_cons_succ, List.set_cons_zero, seq_nx, sRt_eq, dCallF_eq, dVar_s, dVar_0, e1, outR_rt]
theorem no_price {n : Int} {R M : Sto} (h : Dv n R M) (hn : n < 90000) : ∃ d M', F__law_no_price [.own 1] M = .ok d M' ∧ Good d ∧ isPrice d = false ∧ (∀ p q, d = pr p q → q < 2 ^ 200) ∧ Dv (n + 5) R M' := by
  obtain ⟨a, M1, e1, a0, a1, v1⟩ := tk 9 h (by omega) (by decide) (by decide)
  obtain ⟨b, M2, e2, b0, b1, v2⟩ := tk 9 v1 (by omega) (by decide) (by decide)
  obtain ⟨k, M3, e3, k0, k1, v3⟩ := tk 5 v2 (by omega) (by decide) (by decide)
  obtain ⟨s, M4, e4, gs, ps, v4⟩ := strange v3 (by omega)
  have ma : ∀ M : Sto, gMul M (.int (2 + k)) (.int (1 + a)) = some (.int ((2 + k) * (1 + a))) := fun M => mulS (by unfold Sm; omega) (by unfold Sm; omega)
  have mb : ∀ M : Sto, gMul M (.int (2 + k)) (.int (1 + b)) = some (.int ((2 + k) * (1 + b))) := fun M => mulS (by unfold Sm; omega) (by unfold Sm; omega)
  have s2 : (2 : Nat) ≤ sizeLine := szl (by decide)
  have s8 : (8 : Nat) ≤ sizeLine := szl (by decide)
  obtain ⟨d, M5, e5, hd, v5⟩ := pick (ds := [pr 0 0, pr (0 - (1 + a)) (1 + b), pr (1 + a) (0 - (1 + b)), pr ((2 + k) * (1 + a)) ((2 + k) * (1 + b)), pr (2 + k) 0, pr 0 (2 + k), pr (-1) 0, s]) v4 (by omega) (by simp) (by simp)
  have bad : Good d ∧ isPrice d = false ∧ ∀ p q, d = pr p q → q < 2 ^ 200 := by
    have np : ∀ p q : Int, ¬ (0 ≤ p ∧ 0 ≤ q ∧ g2 p q = 1) → isPrice (pr p q) = false := fun p q z => by
      cases e : isPrice (pr p q) with
      | false => rfl
      | true => exact absurd (price_iff.mp e) z
    have sz : ∀ p q : Int, q < 2 ^ 200 → ∀ p' q', pr p q = pr p' q' → q' < 2 ^ 200 := fun p q z p' q' e => by
      cases e
      exact z
    have b6 : (2 + k) * (1 + b) < 2 ^ 200 := by
      have z : (2 + k) * (1 + b) ≤ 6 * (1 + b) := Int.mul_le_mul_of_nonneg_right (by omega) (by omega)
      omega
    simp only [List.mem_cons, List.not_mem_nil, or_false] at hd
    rcases hd with rfl | rfl | rfl | rfl | rfl | rfl | rfl | rfl
    · exact ⟨good_pr _ _, by decide, sz _ _ (by decide)⟩
    · exact ⟨good_pr _ _, np _ _ (by omega), sz _ _ (by omega)⟩
    · exact ⟨good_pr _ _, np _ _ (by omega), sz _ _ (by omega)⟩
    · refine ⟨good_pr _ _, np _ _ (fun z => ?_), sz _ _ b6⟩
      have z := z.2.2
      unfold g2 at z
      rw [Int.natAbs_mul, Int.natAbs_mul, Nat.gcd_mul_left] at z
      have z1 : (2 + k).natAbs * Nat.gcd (1 + a).natAbs (1 + b).natAbs = 1 := by omega
      have z2 := Nat.eq_one_of_mul_eq_one_right z1
      omega
    · refine ⟨good_pr _ _, np _ _ (fun z => ?_), sz _ _ (by decide)⟩
      have z := z.2.2
      unfold g2 at z
      rw [Int.natAbs_zero, Nat.gcd_zero_right] at z
      omega
    · refine ⟨good_pr _ _, np _ _ (fun z => ?_), sz _ _ (by omega)⟩
      have z := z.2.2
      unfold g2 at z
      rw [Int.natAbs_zero, Nat.gcd_zero_left] at z
      omega
    · exact ⟨good_pr _ _, by decide, sz _ _ (by decide)⟩
    · refine ⟨gs, notp ps, fun p q e => ?_⟩
      rw [e] at ps
      cases ps
  refine ⟨d, M5, ?_, bad.1, bad.2.1, bad.2.2, v5.mono (by omega)⟩
  rw [F__law_no_price, fnD_eq]
  show outR (b__law_no_price [some (.own 1), none, none, none, none] M) = _
  rw [b__law_no_price]
  simp only [sSq_eq, sSet_eq, sPar_eq, dBin_eq, dCallF_eq, dLst_eq, dCons_eq, dNil_eq, dC_eq, bind_ok, dVar_s, dVar_0, e1, ofO_some', gAdd_int, e2, thn_ok, List.set_cons_succ, List.set_cons_zero, seq_nx, e3, dTup_eq, gSub_int, ma, mb, dNeg_eq, negV_int, e4, List.length_cons, List.length_nil, Nat.zero_add, Nat.reduceAdd, if_pos s2, if_pos s8, sRt_eq, e5, outR_rt]
/-! ### what is refused -/
theorem refused {n a b p q : Int} {R M : Sto} (h : Dv n R M) (hn : n < 80000) (sp : Spot p q) : ∃ M', F__law_refused [.own 1, pr a b, pr p q] M = .ok (.bl true) M' ∧ Dv (n + 8) R M' := by
  obtain ⟨bad, M1, e1, g1, n1, _, v1⟩ := no_price h (by omega)
  obtain ⟨odd, M2, e2, g2', n2, v2⟩ := strange v1 (by omega)
  obtain ⟨t, M3, e3, t0, t1, v3⟩ := tk 100000000000 v2 (by omega) (by decide) (by decide)
  obtain ⟨nn, M4, e4, hd, v4⟩ := pick (ds := [.non, .bl true, .bl false, .str "1", .tup [.int 1], .lst [.int 1], .int (-1), .int (0 - 1 - t)]) v3 (by omega) (by simp) (by simp)
  have hp : ∀ M : Sto, gPow M (.int 10) (.int 11) = some (.int 100000000000) := fun M => pw M 11 ⟨by decide, by decide⟩
  have nb : Base nn ∧ badNum nn = true := by
    simp only [List.mem_cons, List.not_mem_nil, or_false] at hd
    rcases hd with rfl | rfl | rfl | rfl | rfl | rfl | rfl | rfl <;> first | exact ⟨trivial, rfl⟩ | exact ⟨trivial, by simp [badNum]; omega⟩
  have s1 : (1 : Nat) ≤ sizeLine := szl (by decide)
  have s2 : (2 : Nat) ≤ sizeLine := szl (by decide)
  have s8 : (8 : Nat) ≤ sizeLine := szl (by decide)
  have i1 : ic_BadPair (.exc 3) = some true := rfl
  have i2 : ic_BadPrice (.exc 1) = some true := rfl
  have i3 : ic_BadNumber (.exc 2) = some true := rfl
  have pp : isPair (pr a b) = true := rfl
  refine ⟨M4, ?_, v4.mono (by omega)⟩
  rw [F__law_refused, fnD_eq]
  show outR (b__law_refused [some (.own 1), some (pr a b), some (pr p q), none, none, none] M) = _
  rw [b__law_refused]
  simp only [sSq_eq, sAs_eq, dTup_eq, dCons_eq, dNil_eq, dCallF_eq, dVar_s, dVar_0, bind_ok, e1, e2, List.length_cons, List.length_nil, Nat.zero_add, Nat.reduceAdd, if_pos s2, thn_ok, gTp_tup, if_true, gsCons_nm, gsNil_eq, ofO_so, seq_nx, List.set_cons_succ, List.set_cons_zero,
    sIf_eq, dNot_eq, dTst_eq, dIsi_eq, dCaught_eq, worth_x1 M2 g2' n2, catR_exc, kIsi_exc, i1, isR_some, asB_bl, Bool.not_true, Bool.false_eq_true, if_false, sNx_eq, sRt_eq, dC_eq,
    worth_x2 M2 (good_pr a b) pp g1 n1, i2, ahead_x1 (e := pr p q) M2 g1 n1, ahead_x2 M2 (good_pr p q) sp.pc g1 n1, amid_x1 M2 (ahead_x1 (e := pr p q) M2 g1 n1), amid_x1 M2 (ahead_x2 M2 (good_pr p q) sp.pc g1 n1),
    meeting_x1 (e := pr a b) M2 g2' n2, meeting_x2 M2 (good_pr a b) pp g2' n2, sSet_eq, dLst_eq, dNeg_eq, negV_int, dBin_eq, hp, ofO_some', gSub_int, e3, if_pos s1, if_pos s8, e4, price_of_x1 M4 nb.1 nb.2, price_of_x2 M4 nb.1 nb.2, price_of_00 M4, i3, outR_rt]
/-! ### two prices in order -/
theorem nz_sum {p q r s : Int} (h1 : Spot p q) (h2 : Spot r s) : Nz (p + r) (q + s) := by
  have a := h1.nn
  have b := h2.nn
  have nz := price_nz h1.pc (by have := h1.ps; omega) (by have := h1.qs; omega)
  have := h1.ps; have := h1.qs; have := h2.ps; have := h2.qs
  exact ⟨by omega, by omega, by omega, by omega, fun z => nz.nz ⟨by omega, by omega⟩⟩
theorem tm_back {p q : Int} (h : Nz p q) : p / g2 p q * g2 p q = p ∧ q / g2 p q * g2 p q = q := by
  constructor
  · apply Int.ediv_mul_cancel
    unfold g2
    exact Int.ofNat_dvd_left.mpr (Nat.gcd_dvd_left _ _)
  · apply Int.ediv_mul_cancel
    unfold g2
    exact Int.ofNat_dvd_left.mpr (Nat.gcd_dvd_right _ _)
theorem ordered {p q r s : Int} (M : Sto) (h1 : Spot p q) (h2 : Spot r s) : F__law_ordered [pr p q, pr r s] M = .ok (.bl true) M := by
  obtain ⟨sp, sq⟩ := h1.sm
  obtain ⟨sr, ss⟩ := h2.sm
  have a1 := ahead_ok M h1.pc h2.pc sp sq sr ss
  have a2 := ahead_ok M h2.pc h1.pc sr ss sp sq
  have l1 := lleads M sp sq sr ss
  have l2 := lleads M sr ss sp sq
  have ga : gath 0 2 [1, 0] [] [pr p q, pr r s] = [pr r s, pr p q] := rfl
  have gb : gath 0 2 [1, 0] [] [pr r s, pr p q] = [pr p q, pr r s] := rfl
  have beq : ∀ x : Bool, (x == x) = true := fun x => by cases x <;> rfl
  rw [F__law_ordered, fnD_eq]
  show outR (b__law_ordered [some (pr p q), some (pr r s), none] M) = _
  rw [b__law_ordered]
  simp only [sSq_eq, sIf_eq, dOr_eq, dNot_eq, dTst_eq, dCallF_eq, dCallK_eq, dCons_eq, dNil_eq, dVar_s, dVar_0, bind_ok, a1, l1, says, asB_bl, ga, a2, l2, beq, Bool.not_true, Bool.false_eq_true, if_false, thn_ok, sNx_eq, seq_nx]
  by_cases hl : r * q < p * s
  · have nz := nz_sum h1 h2
    have am := amid_ok M h1.pc h2.pc sp sq sr ss nz hl
    have mp := tm_price nz
    obtain ⟨b1, b2⟩ := tm_back nz
    obtain ⟨c1, c2, c3, c4⟩ := tm_le nz
    have g0 := nz.pos
    have := h1.ps; have := h1.qs; have := h2.ps; have := h2.qs
    have sm1 : Sm ((p + r) / g2 (p + r) (q + s)) := by unfold Sm; omega
    have sm2 : Sm ((q + s) / g2 (p + r) (q + s)) := by unfold Sm; omega
    have a3 := ahead_ok M h1.pc mp sp sq sm1 sm2
    have a4 := ahead_ok M mp h2.pc sm1 sm2 sr ss
    have t3 : (p + r) / g2 (p + r) (q + s) * q < p * ((q + s) / g2 (p + r) (q + s)) := by
      apply Int.lt_of_mul_lt_mul_right (a := g2 (p + r) (q + s)) _ (Int.le_of_lt g0)
      have x1 : (p + r) / g2 (p + r) (q + s) * q * g2 (p + r) (q + s) = (p + r) * q := by rw [Int.mul_right_comm, b1]
      have x2 : p * ((q + s) / g2 (p + r) (q + s)) * g2 (p + r) (q + s) = p * (q + s) := by rw [Int.mul_assoc, b2]
      rw [x1, x2, Int.add_mul, Int.mul_add]
      omega
    have t4 : r * ((q + s) / g2 (p + r) (q + s)) < (p + r) / g2 (p + r) (q + s) * s := by
      apply Int.lt_of_mul_lt_mul_right (a := g2 (p + r) (q + s)) _ (Int.le_of_lt g0)
      have x1 : r * ((q + s) / g2 (p + r) (q + s)) * g2 (p + r) (q + s) = r * (q + s) := by rw [Int.mul_assoc, b2]
      have x2 : (p + r) / g2 (p + r) (q + s) * s * g2 (p + r) (q + s) = (p + r) * s := by rw [Int.mul_right_comm, b1]
      rw [x1, x2, Int.add_mul, Int.mul_add]
      omega
    have tt : gIs M (.bl true) (.bl true) = some (.bl true) := rfl
    simp only [hl, decide_true, Bool.not_true, Bool.false_eq_true, if_false, thn_ok, seq_nx, sSq_eq, sIf_eq, dNot_eq, dTst_eq, sNx_eq, dCallK_eq, sSet_eq, dCallF_eq, dCons_eq, dNil_eq, dVar_s, dVar_0, bind_ok, am, List.set_cons_succ, List.set_cons_zero, dBin_eq, dC_eq, ix0, ix1, ofO_some', gAdd_int, lterms M nz, same_tm M nz, asB_bl, dAndV_eq, a3, a4, t3, t4, tt, andV_bl, if_true, gb, sRt_eq, outR_rt]
  · have am := amid_x M h1.pc h2.pc sp sq sr ss hl
    have i4 : ic_NotAhead (.exc 4) = some true := rfl
    simp only [hl, decide_false, Bool.not_false, if_true, sRt_eq, dIsi_eq, dCaught_eq, dCallF_eq, dCons_eq, dNil_eq, dVar_s, dVar_0, bind_ok, am, catR_exc, kIsi_exc, i4, isR_some, thn_ok, seq_rt, outR_rt]
end K17
set_option maxHeartbeats 4000000
namespace K17
open PySem L2 DL
def lb0 : FS := (sSet 3 (dBin gAdd (dC (.int 1)) (dCallF F__law_take (dCons (dVar 1) (dCons (dC (.int 12)) (dNil))))))
def lb1 : FS := (sPar 4 5 (dBin gMul (dBin gDiv (dCallF F__law_amount (dCons (dVar 1) (dNil))) (dVar 3)) (dVar 3)) (dBin gMul (dBin gDiv (dCallF F__law_amount (dCons (dVar 1) (dNil))) (dVar 3)) (dVar 3)))
def lb2 : FS := (sIf (dTst (dBin gEq (dBin gAdd (dVar 4) (dVar 5)) (dC (.int 0)))) (sSet 5 (dVar 3)) (sNx))
def lb3 : FS := (sIf (dOr (dNot (dTst (dCallF F__law_same (dCons (dCallF F_price_of (dCons (dVar 4) (dCons (dVar 5) (dNil)))) (dCons (dCallF F__law_terms (dCons (dVar 4) (dCons (dVar 5) (dNil)))) (dNil)))))) (dNot (dTst (dCallF F__law_same (dCons (dCallK F_price_of 0 2 [1, 0] dNil (dCons (dVar 5) (dCons (dVar 4) (dNil)))) (dCons (dCallF F__law_terms (dCons (dVar 4) (dCons (dVar 5) (dNil)))) (dNil))))))) (sRt (dC (.bl false))) (sNx))
def lb4 : FS := (sSet 6 (dCallF F__law_pick (dCons (dVar 1) (dCons (dLst (dCons (dCallF F__law_spot (dCons (dVar 1) (dNil))) (dCons (dCallF F__law_no_price (dCons (dVar 1) (dNil))) (dCons (dTup (dCons (dVar 4) (dCons (dVar 5) (dNil)))) (dCons (dLst (dCons (dVar 4) (dCons (dVar 5) (dNil)))) (dNil)))))) (dNil)))))
def lb5 : FS := (sIf (dOr (dNot (dTst (dCallF F__law_says (dCons (dCallF F_is_price (dCons (dVar 6) (dNil))) (dCons (dCallF F__law_is_price (dCons (dVar 6) (dNil))) (dNil)))))) (dNot (dTst (dCallF F__law_says (dCons (dCallK F_is_price 0 1 [0] dNil (dCons (dVar 6) (dNil))) (dCons (dCallF F__law_is_price (dCons (dVar 6) (dNil))) (dNil))))))) (sRt (dC (.bl false))) (sNx))
def lb6 : FS := (sPar3 7 8 9 (dCallF F__law_spot (dCons (dVar 1) (dNil))) (dCallF F__law_spot (dCons (dVar 1) (dNil))) (dCallF F__law_peak (dCons (dVar 1) (dNil))))
def lb7 : FS := (sPar 10 11 (dCallF F__law_pair (dCons (dVar 1) (dCons (dVar 9) (dNil)))) (dCallF F__law_pair (dCons (dVar 1) (dCons (dVar 9) (dNil)))))
def lb8 : FS := (sIf (dOr (dNot (dTst (dCallF F__law_same (dCons (dCallF F_worth (dCons (dVar 10) (dCons (dVar 7) (dNil)))) (dCons (dCallF F__law_worth (dCons (dVar 10) (dCons (dVar 7) (dNil)))) (dNil)))))) (dNot (dTst (dCallF F__law_same (dCons (dCallK F_worth 0 2 [1, 0] dNil (dCons (dVar 7) (dCons (dVar 10) (dNil)))) (dCons (dCallF F__law_worth (dCons (dVar 10) (dCons (dVar 7) (dNil)))) (dNil))))))) (sRt (dC (.bl false))) (sNx))
def lb9 : FS := (sIf (dOr (dNot (dTst (dCallF F__law_ordered (dCons (dVar 7) (dCons (dVar 8) (dNil)))))) (dOr (dNot (dTst (dCallF F__law_ordered (dCons (dTup (dCons (dC (.int 1)) (dCons (dC (.int 0)) (dNil)))) (dCons (dVar 7) (dNil)))))) (dNot (dTst (dCallF F__law_ordered (dCons (dVar 7) (dCons (dTup (dCons (dC (.int 0)) (dCons (dC (.int 1)) (dNil)))) (dNil)))))))) (sRt (dC (.bl false))) (sNx))
def lb10 : FS := (sIf (dOr (dNot (dTst (dCallF F__law_same (dCons (dCallF F_meeting (dCons (dVar 10) (dCons (dVar 11) (dNil)))) (dCons (dCallF F__law_meet (dCons (dVar 10) (dCons (dVar 11) (dNil)))) (dNil)))))) (dTst (dBin gIsNot (dCallF F_meeting (dCons (dVar 10) (dCons (dVar 10) (dNil)))) (dC .non)))) (sRt (dC (.bl false))) (sNx))
def lb11 : FS := (sIf (dNot (dTst (dCallF F__law_same (dCons (dCallK F_meeting 0 2 [1, 0] dNil (dCons (dVar 11) (dCons (dVar 10) (dNil)))) (dCons (dCallF F__law_meet (dCons (dVar 11) (dCons (dVar 10) (dNil)))) (dNil)))))) (sRt (dC (.bl false))) (sNx))
def lb12 : FS := (sSet 12 (dTup (dCons (dBin gAdd (dBin gIx (dVar 10) (dC (.int 0))) (dBin gIx (dVar 7) (dC (.int 1)))) (dCons (dBin gSub (dBin gIx (dVar 10) (dC (.int 1))) (dBin gIx (dVar 7) (dC (.int 0)))) (dNil)))))
def lb13 : FS := (sIf (dAnd (dTst (dBin gLt (dCallB gAbs (dCons (dBin gIx (dVar 12) (dC (.int 0))) (dNil))) (dBin gPow (dC (.int 10)) (dC (.int 12))))) (dAnd (dTst (dBin gLt (dCallB gAbs (dCons (dBin gIx (dVar 12) (dC (.int 1))) (dNil))) (dBin gPow (dC (.int 10)) (dC (.int 12))))) (dNot (dTst (dCallF F__law_same (dCons (dCallF F_meeting (dCons (dVar 10) (dCons (dVar 12) (dNil)))) (dCons (dVar 7) (dNil)))))))) (sRt (dC (.bl false))) (sNx))
def lb14 : FS := (sIf (dNot (dTst (dCallF F__law_refused (dCons (dVar 1) (dCons (dVar 10) (dCons (dVar 7) (dNil))))))) (sRt (dC (.bl false))) (sNx))
def lb : FS := sSq lb0 (sSq lb1 (sSq lb2 (sSq lb3 (sSq lb4 (sSq lb5 (sSq lb6 (sSq lb7 (sSq lb8 (sSq lb9 (sSq lb10 (sSq lb11 (sSq lb12 (sSq lb13 (lb14))))))))))))))
/-- the frame of the law -/
abbrev fr (s x2 x3 x4 x5 x6 x7 x8 x9 x10 x11 x12 : Option D) : DL.Env := [s, some (.own 1), x2, x3, x4, x5, x6, x7, x8, x9, x10, x11, x12]
theorem one_turn {n : Int} {M : Sto} (h : Dv n [] M) (hn : n < 50000) (s x2 x3 x4 x5 x6 x7 x8 x9 x10 x11 x12 : Option D) :
    ∃ y3 y4 y5 y6 y7 y8 y9 y10 y11 y12 M', lb (fr s x2 x3 x4 x5 x6 x7 x8 x9 x10 x11 x12) M = .nx (fr s x2 y3 y4 y5 y6 y7 y8 y9 y10 y11 y12) M' ∧ Dv (n + 60) [] M' := by
  obtain ⟨k, M1, e1, k0, k1, v1⟩ := tk 12 h (by omega) (by decide) (by decide)
  obtain ⟨a, M2, e2, a0, a1, v2⟩ := amount v1 (by omega)
  obtain ⟨b, M3, e3, b0, b1, v3⟩ := amount v2 (by omega)
  obtain ⟨p1, q1, M4, e4, s4, v4⟩ := spot v3 (by omega)
  obtain ⟨bad, M5, e5, g5, n5, z5, v5⟩ := no_price v4 (by omega)
  have hd0 : 0 < 1 + k := by omega
  have hd1 : (1 + k).natAbs.log2 < 9000 := Nat.lt_trans (lg 100 (by decide) (by omega)) (by decide)
  have hA0 : 0 ≤ a / (1 + k) * (1 + k) := Int.mul_nonneg (Int.ediv_nonneg a0 (by omega)) (by omega)
  have hA1 : a / (1 + k) * (1 + k) ≤ a := Int.ediv_mul_le a (by omega)
  have hB0 : 0 ≤ b / (1 + k) * (1 + k) := Int.mul_nonneg (Int.ediv_nonneg b0 (by omega)) (by omega)
  have hB1 : b / (1 + k) * (1 + k) ≤ b := Int.ediv_mul_le b (by omega)
  have qa : a / (1 + k) ≤ a := Int.ediv_le_self _ a0
  have qb : b / (1 + k) ≤ b := Int.ediv_le_self _ b0
  have qa0 : 0 ≤ a / (1 + k) := Int.ediv_nonneg a0 (by omega)
  have qb0 : 0 ≤ b / (1 + k) := Int.ediv_nonneg b0 (by omega)
  have ma : ∀ M : Sto, gMul M (.int (a / (1 + k))) (.int (1 + k)) = some (.int (a / (1 + k) * (1 + k))) := fun M => mulS (by unfold Sm; omega) (by unfold Sm; omega)
  have mb : ∀ M : Sto, gMul M (.int (b / (1 + k))) (.int (1 + k)) = some (.int (b / (1 + k) * (1 + k))) := fun M => mulS (by unfold Sm; omega) (by unfold Sm; omega)
  -- the two numbers
  obtain ⟨one, two, nz, c1, c2, st2⟩ : ∃ one two, Nz one two ∧ one < 10000000000000 ∧ two < 10000000000000 ∧ lb2 (fr s x2 (some (.int (1 + k))) (some (.int (a / (1 + k) * (1 + k)))) (some (.int (b / (1 + k) * (1 + k)))) x6 x7 x8 x9 x10 x11 x12) M3 = .nx (fr s x2 (some (.int (1 + k))) (some (.int one)) (some (.int two)) x6 x7 x8 x9 x10 x11 x12) M3 := by
    by_cases z : a / (1 + k) * (1 + k) + b / (1 + k) * (1 + k) = 0
    · refine ⟨a / (1 + k) * (1 + k), 1 + k, ⟨hA0, by omega, by omega, by omega, by omega⟩, by omega, by omega, ?_⟩
      rw [lb2]
      simp only [fr, sIf_eq, dTst_eq, dBin_eq, dVar_s, dVar_0, dC_eq, bind_ok, gAdd_int, ofO_some', gEq_int, asB_bl, thn_ok, z, decide_true, if_true, sSet_eq, List.set_cons_succ, List.set_cons_zero]
    · refine ⟨a / (1 + k) * (1 + k), b / (1 + k) * (1 + k), ⟨hA0, hB0, by omega, by omega, by omega⟩, by omega, by omega, ?_⟩
      rw [lb2]
      simp only [fr, sIf_eq, dTst_eq, dBin_eq, dVar_s, dVar_0, dC_eq, bind_ok, gAdd_int, ofO_some', gEq_int, asB_bl, thn_ok, z, decide_false, Bool.false_eq_true, if_false, sNx_eq]
  have lgood : Good (.lst [.int one, .int two]) := ⟨trivial, fun ds e => by cases e⟩
  obtain ⟨th, M6, e6, hd, v6⟩ := pick (ds := [pr p1 q1, bad, pr one two, .lst [.int one, .int two]]) v5 (by omega) (by simp) (by simp)
  have hth : Good th ∧ ∀ p q, th = pr p q → q < 2 ^ 200 := by
    simp only [List.mem_cons, List.not_mem_nil, or_false] at hd
    rcases hd with rfl | rfl | rfl | rfl
    · exact ⟨good_pr _ _, fun p q e => by cases e; have := s4.qs; omega⟩
    · exact ⟨g5, z5⟩
    · exact ⟨good_pr _ _, fun p q e => by cases e; omega⟩
    · exact ⟨lgood, fun p q e => by cases e⟩
  obtain ⟨p, q, M7, e7, sp, v7⟩ := spot v6 (by omega)
  obtain ⟨r, t, M8, e8, sp2, v8⟩ := spot v7 (by omega)
  obtain ⟨pk, M9, e9, pk0, pk1, v9⟩ := peak v8 (by omega)
  obtain ⟨x, y, M10, e10, xa, xb, ya, yb, v10⟩ := dpair v9 (by omega) pk0 pk1
  obtain ⟨u, v, M11, e11, ua, ub, va, vb, v11⟩ := dpair v10 (by omega) pk0 pk1
  obtain ⟨M12, e12, v12⟩ := refused (a := x) (b := y) v11 (by omega) sp
  have s2 : (2 : Nat) ≤ sizeLine := szl (by decide)
  have s4' : (4 : Nat) ≤ sizeLine := szl (by decide)
  have beq : ∀ z : Bool, (z == z) = true := fun z => by cases z <;> rfl
  obtain ⟨smp, smq⟩ := sp.sm
  have smx : Sm x := by unfold Sm; omega
  have smy : Sm y := by unfold Sm; omega
  have g10 : gath 0 2 [1, 0] [] [D.int two, D.int one] = [D.int one, D.int two] := rfl
  have g11 : gath 0 1 [0] [] [th] = [th] := rfl
  have g12 : gath 0 2 [1, 0] [] [pr p q, pr x y] = [pr x y, pr p q] := rfl
  have g13 : gath 0 2 [1, 0] [] [pr u v, pr x y] = [pr x y, pr u v] := rfl
  refine ⟨some (.int (1 + k)), some (.int one), some (.int two), some th, some (pr p q), some (pr r t), some (.int pk), some (pr x y), some (pr u v), some (pr (x + q) (y - p)), M12, ?_, v12.mono (by omega)⟩
  have t0 : lb0 (fr s x2 x3 x4 x5 x6 x7 x8 x9 x10 x11 x12) M = .nx (fr s x2 (some (.int (1 + k))) x4 x5 x6 x7 x8 x9 x10 x11 x12) M1 := by
    rw [lb0]
    simp only [fr, sSet_eq, dBin_eq, dC_eq, bind_ok, dCallF_eq, dCons_eq, dNil_eq, dVar_s, dVar_0, e1, ofO_some', gAdd_int, thn_ok, List.set_cons_succ, List.set_cons_zero]
  have t1 : lb1 (fr s x2 (some (.int (1 + k))) x4 x5 x6 x7 x8 x9 x10 x11 x12) M1 = .nx (fr s x2 (some (.int (1 + k))) (some (.int (a / (1 + k) * (1 + k)))) (some (.int (b / (1 + k) * (1 + k)))) x6 x7 x8 x9 x10 x11 x12) M3 := by
    rw [lb1]
    simp only [fr, sPar_eq, dBin_eq, dCallF_eq, dCons_eq, dNil_eq, dVar_s, dVar_0, bind_ok, e2, gDiv_int hd0 hd1, ofO_some', ma, thn_ok, e3, mb, List.set_cons_succ, List.set_cons_zero]
  have t3 : lb3 (fr s x2 (some (.int (1 + k))) (some (.int one)) (some (.int two)) x6 x7 x8 x9 x10 x11 x12) M3 = .nx (fr s x2 (some (.int (1 + k))) (some (.int one)) (some (.int two)) x6 x7 x8 x9 x10 x11 x12) M3 := by
    rw [lb3]
    simp only [fr, sIf_eq, dOr_eq, dNot_eq, dTst_eq, dCallF_eq, dCallK_eq, dCons_eq, dNil_eq, dVar_s, dVar_0, bind_ok, price_of M3 nz, lterms M3 nz, same_tm M3 nz, asB_bl, Bool.not_true, Bool.false_eq_true, if_false, g10, thn_ok, sNx_eq]
  have t4 : lb4 (fr s x2 (some (.int (1 + k))) (some (.int one)) (some (.int two)) x6 x7 x8 x9 x10 x11 x12) M3 = .nx (fr s x2 (some (.int (1 + k))) (some (.int one)) (some (.int two)) (some th) x7 x8 x9 x10 x11 x12) M6 := by
    rw [lb4]
    simp only [fr, sSet_eq, dCallF_eq, dCons_eq, dNil_eq, dVar_s, dVar_0, bind_ok, dLst_eq, dTup_eq, e4, e5, List.length_cons, List.length_nil, Nat.zero_add, Nat.reduceAdd, if_pos s2, if_pos s4', e6, thn_ok, List.set_cons_succ, List.set_cons_zero]
  have t5 : lb5 (fr s x2 (some (.int (1 + k))) (some (.int one)) (some (.int two)) (some th) x7 x8 x9 x10 x11 x12) M6 = .nx (fr s x2 (some (.int (1 + k))) (some (.int one)) (some (.int two)) (some th) x7 x8 x9 x10 x11 x12) M6 := by
    rw [lb5]
    simp only [fr, sIf_eq, dOr_eq, dNot_eq, dTst_eq, dCallF_eq, dCallK_eq, dCons_eq, dNil_eq, dVar_s, dVar_0, bind_ok, price_ok th M6 hth.1, lprice_ok th M6 hth.1 hth.2, says, beq, asB_bl, Bool.not_true, Bool.false_eq_true, if_false, g11, thn_ok, sNx_eq]
  have t6 : lb6 (fr s x2 (some (.int (1 + k))) (some (.int one)) (some (.int two)) (some th) x7 x8 x9 x10 x11 x12) M6 = .nx (fr s x2 (some (.int (1 + k))) (some (.int one)) (some (.int two)) (some th) (some (pr p q)) (some (pr r t)) (some (.int pk)) x10 x11 x12) M9 := by
    rw [lb6]
    simp only [fr, sPar3_eq, dCallF_eq, dCons_eq, dNil_eq, dVar_s, dVar_0, bind_ok, e7, e8, e9, thn_ok, List.set_cons_succ, List.set_cons_zero]
  have t7 : lb7 (fr s x2 (some (.int (1 + k))) (some (.int one)) (some (.int two)) (some th) (some (pr p q)) (some (pr r t)) (some (.int pk)) x10 x11 x12) M9 = .nx (fr s x2 (some (.int (1 + k))) (some (.int one)) (some (.int two)) (some th) (some (pr p q)) (some (pr r t)) (some (.int pk)) (some (pr x y)) (some (pr u v)) x12) M11 := by
    rw [lb7]
    simp only [fr, sPar_eq, dCallF_eq, dCons_eq, dNil_eq, dVar_s, dVar_0, bind_ok, e10, e11, thn_ok, List.set_cons_succ, List.set_cons_zero]
  have wo := worth_ok M11 sp.pc smx smy smp smq
  have lwo := lworth M11 smx smy smp smq
  have swo : F__law_same [.int (p * x + q * y), .int (p * x + q * y)] M11 = .ok (.bl true) M11 := by
    have z1 : (p * x).natAbs ≤ 100000000000 * 100000000000 := by
      rw [Int.natAbs_mul]
      exact Nat.mul_le_mul (by have := sp.ps; have := sp.nn; omega) (by omega)
    have z2 : (q * y).natAbs ≤ 100000000000 * 100000000000 := by
      rw [Int.natAbs_mul]
      exact Nat.mul_le_mul (by have := sp.qs; have := sp.nn; omega) (by omega)
    exact same_int M11 (by omega)
  have t8 : ∀ w12, lb8 (fr s x2 (some (.int (1 + k))) (some (.int one)) (some (.int two)) (some th) (some (pr p q)) (some (pr r t)) (some (.int pk)) (some (pr x y)) (some (pr u v)) w12) M11 = .nx (fr s x2 (some (.int (1 + k))) (some (.int one)) (some (.int two)) (some th) (some (pr p q)) (some (pr r t)) (some (.int pk)) (some (pr x y)) (some (pr u v)) w12) M11 := fun w12 => by
    rw [lb8]
    simp only [fr, sIf_eq, dOr_eq, dNot_eq, dTst_eq, dCallF_eq, dCallK_eq, dCons_eq, dNil_eq, dVar_s, dVar_0, bind_ok, wo, lwo, swo, asB_bl, Bool.not_true, Bool.false_eq_true, if_false, g12, thn_ok, sNx_eq]
  have p10 : Spot 1 0 := ⟨by decide, by decide, by decide⟩
  have p01 : Spot 0 1 := ⟨by decide, by decide, by decide⟩
  have t9 : ∀ w12, lb9 (fr s x2 (some (.int (1 + k))) (some (.int one)) (some (.int two)) (some th) (some (pr p q)) (some (pr r t)) (some (.int pk)) (some (pr x y)) (some (pr u v)) w12) M11 = .nx (fr s x2 (some (.int (1 + k))) (some (.int one)) (some (.int two)) (some th) (some (pr p q)) (some (pr r t)) (some (.int pk)) (some (pr x y)) (some (pr u v)) w12) M11 := fun w12 => by
    rw [lb9]
    simp only [fr, sIf_eq, dOr_eq, dNot_eq, dTst_eq, dCallF_eq, dCons_eq, dNil_eq, dVar_s, dVar_0, dC_eq, dTup_eq, List.length_cons, List.length_nil, Nat.zero_add, Nat.reduceAdd, if_pos s2, bind_ok, ordered M11 sp sp2, ordered M11 p10 sp, ordered M11 sp p01, asB_bl, Bool.not_true, Bool.false_eq_true, if_false, thn_ok, sNx_eq]
  have d1 : Sm (x - u) := by unfold Sm; omega
  have d2 : Sm (v - y) := by unfold Sm; omega
  have d3 : Sm (x - x) := by unfold Sm; omega
  have d4 : Sm (y - y) := by unfold Sm; omega
  have d5 : Sm (u - x) := by unfold Sm; omega
  have d6 : Sm (y - v) := by unfold Sm; omega
  have d7 : Sm (x - (x + q)) := by have := sp.qs; have := sp.nn; unfold Sm; omega
  have d8 : Sm (y - p - y) := by have := sp.ps; have := sp.nn; unfold Sm; omega
  have mm : meet x y x y = .non := by
    unfold meet
    rw [if_pos (.inl ⟨by omega, by omega⟩)]
  have inn : gIsNot M11 .non .non = some (.bl false) := rfl
  have t10 : ∀ w12, lb10 (fr s x2 (some (.int (1 + k))) (some (.int one)) (some (.int two)) (some th) (some (pr p q)) (some (pr r t)) (some (.int pk)) (some (pr x y)) (some (pr u v)) w12) M11 = .nx (fr s x2 (some (.int (1 + k))) (some (.int one)) (some (.int two)) (some th) (some (pr p q)) (some (pr r t)) (some (.int pk)) (some (pr x y)) (some (pr u v)) w12) M11 := fun w12 => by
    rw [lb10]
    simp only [fr, sIf_eq, dOr_eq, dNot_eq, dTst_eq, dCallF_eq, dCons_eq, dNil_eq, dVar_s, dVar_0, dC_eq, dBin_eq, bind_ok, meeting_ok M11 d1 d2, lmeet M11 d1 d2, same_meet M11 d1 d2, meeting_ok M11 d3 d4, mm, inn, ofO_some', asB_bl, Bool.not_true, Bool.false_eq_true, if_false, thn_ok, sNx_eq]
  have msym : meet u v x y = meet x y u v := by
    have ab : ∀ i : Int, absI (-i) = absI i := fun i => by unfold absI; omega
    have f1 : u - x = -(x - u) := by omega
    have f2 : y - v = -(v - y) := by omega
    unfold meet
    rw [f1, f2, Int.neg_mul_neg, ab, ab]
    simp only [Int.neg_eq_zero]
  have t11 : ∀ w12, lb11 (fr s x2 (some (.int (1 + k))) (some (.int one)) (some (.int two)) (some th) (some (pr p q)) (some (pr r t)) (some (.int pk)) (some (pr x y)) (some (pr u v)) w12) M11 = .nx (fr s x2 (some (.int (1 + k))) (some (.int one)) (some (.int two)) (some th) (some (pr p q)) (some (pr r t)) (some (.int pk)) (some (pr x y)) (some (pr u v)) w12) M11 := fun w12 => by
    rw [lb11]
    simp only [fr, sIf_eq, dNot_eq, dTst_eq, dCallF_eq, dCallK_eq, dCons_eq, dNil_eq, dVar_s, dVar_0, bind_ok, g13, meeting_ok M11 d1 d2, lmeet M11 d5 d6, msym, same_meet M11 d1 d2, asB_bl, Bool.not_true, Bool.false_eq_true, if_false, thn_ok, sNx_eq]
  have t12 : lb12 (fr s x2 (some (.int (1 + k))) (some (.int one)) (some (.int two)) (some th) (some (pr p q)) (some (pr r t)) (some (.int pk)) (some (pr x y)) (some (pr u v)) x12) M11 = .nx (fr s x2 (some (.int (1 + k))) (some (.int one)) (some (.int two)) (some th) (some (pr p q)) (some (pr r t)) (some (.int pk)) (some (pr x y)) (some (pr u v)) (some (pr (x + q) (y - p)))) M11 := by
    rw [lb12]
    simp only [fr, sSet_eq, dTup_eq, dCons_eq, dNil_eq, dBin_eq, dVar_s, dVar_0, dC_eq, bind_ok, ix0, ix1, ofO_some', gAdd_int, gSub_int, List.length_cons, List.length_nil, Nat.zero_add, Nat.reduceAdd, if_pos s2, thn_ok, List.set_cons_succ, List.set_cons_zero]
  have msh : meet x y (x + q) (y - p) = pr p q := by
    have nn := sp.nn
    have nz2 := price_nz sp.pc (by have := sp.ps; omega) (by have := sp.qs; omega)
    have f1 : x - (x + q) = -q := by omega
    have f2 : y - p - y = -p := by omega
    unfold meet
    rw [f1, f2]
    have hno : ¬ ((-q = 0 ∧ -p = 0) ∨ -q * -p < 0) := by
      rintro (z | z)
      · exact nz2.nz ⟨by omega, by omega⟩
      · rw [Int.neg_mul_neg] at z
        have := Int.mul_nonneg nn.2 nn.1
        omega
    rw [if_neg hno]
    have a1 : absI (-p) = p := by unfold absI; omega
    have a2 : absI (-q) = q := by unfold absI; omega
    rw [a1, a2]
    exact tm_self sp.pc
  have ab : ∀ (M : Sto) (i : Int), gAbs M [.int i] = some (.int (absI i)) := fun M i => rfl
  have hp12 : ∀ M : Sto, gPow M (.int 10) (.int 12) = some (.int 1000000000000) := fun M => pw M 12 ⟨by decide, by decide⟩
  have b1 : absI (x + q) < 1000000000000 := by have := sp.qs; have := sp.nn; unfold absI; omega
  have b2 : absI (y - p) < 1000000000000 := by have := sp.ps; have := sp.nn; unfold absI; omega
  have spq : F__law_same [pr p q, pr p q] M11 = .ok (.bl true) M11 := same_pr M11 (by have := sp.ps; have := sp.nn; omega) (by have := sp.qs; have := sp.nn; omega)
  have t13 : lb13 (fr s x2 (some (.int (1 + k))) (some (.int one)) (some (.int two)) (some th) (some (pr p q)) (some (pr r t)) (some (.int pk)) (some (pr x y)) (some (pr u v)) (some (pr (x + q) (y - p)))) M11 = .nx (fr s x2 (some (.int (1 + k))) (some (.int one)) (some (.int two)) (some th) (some (pr p q)) (some (pr r t)) (some (.int pk)) (some (pr x y)) (some (pr u v)) (some (pr (x + q) (y - p)))) M11 := by
    rw [lb13]
    simp only [fr, sIf_eq, dAnd_eq, dNot_eq, dTst_eq, dBin_eq, dCallB_eq, dCallF_eq, dCons_eq, dNil_eq, dVar_s, dVar_0, dC_eq, bind_ok, ix0, ix1, ofO_some', ab, hp12, gLt_int, b1, b2, decide_true, asB_bl, if_true, meeting_ok M11 d7 d8, msh, spq, Bool.not_true, Bool.false_eq_true, if_false, thn_ok, sNx_eq]
  have t14 : lb14 (fr s x2 (some (.int (1 + k))) (some (.int one)) (some (.int two)) (some th) (some (pr p q)) (some (pr r t)) (some (.int pk)) (some (pr x y)) (some (pr u v)) (some (pr (x + q) (y - p)))) M11 = .nx (fr s x2 (some (.int (1 + k))) (some (.int one)) (some (.int two)) (some th) (some (pr p q)) (some (pr r t)) (some (.int pk)) (some (pr x y)) (some (pr u v)) (some (pr (x + q) (y - p)))) M12 := by
    rw [lb14]
    simp only [fr, sIf_eq, dNot_eq, dTst_eq, dCallF_eq, dCons_eq, dNil_eq, dVar_s, dVar_0, bind_ok, e12, asB_bl, Bool.not_true, Bool.false_eq_true, if_false, thn_ok, sNx_eq]
  rw [lb]
  rw [sSq_eq, t0, seq_nx, sSq_eq, t1, seq_nx, sSq_eq, st2, seq_nx, sSq_eq, t3, seq_nx, sSq_eq, t4, seq_nx, sSq_eq, t5, seq_nx, sSq_eq, t6, seq_nx, sSq_eq, t7, seq_nx, sSq_eq, t8, seq_nx, sSq_eq, t9, seq_nx, sSq_eq, t10, seq_nx, sSq_eq, t11, seq_nx, sSq_eq, t12, seq_nx, sSq_eq, t13, seq_nx, t14]
theorem turns_ok : ∀ (ds : List D) {n : Int} {M : Sto}, Dv n [] M → n + 60 * ds.length < 50000 → ∀ (s x2 x3 x4 x5 x6 x7 x8 x9 x10 x11 x12 : Option D),
    ∃ y2 y3 y4 y5 y6 y7 y8 y9 y10 y11 y12 M', forD (gNm 2) lb ds (fr s x2 x3 x4 x5 x6 x7 x8 x9 x10 x11 x12) M = .nx (fr s y2 y3 y4 y5 y6 y7 y8 y9 y10 y11 y12) M'
  | [], n, M, _, _, s, x2, x3, x4, x5, x6, x7, x8, x9, x10, x11, x12 => ⟨_, _, _, _, _, _, _, _, _, _, _, _, rfl⟩
  | d :: ds, n, M, h, hn, s, x2, x3, x4, x5, x6, x7, x8, x9, x10, x11, x12 => by
    rw [List.length_cons] at hn
    obtain ⟨y3, y4, y5, y6, y7, y8, y9, y10, y11, y12, M', e, v⟩ := one_turn h (by omega) s (some d) x3 x4 x5 x6 x7 x8 x9 x10 x11 x12
    obtain ⟨z2, z3, z4, z5, z6, z7, z8, z9, z10, z11, z12, M2, e2⟩ := turns_ok ds v (by omega) s (some d) y3 y4 y5 y6 y7 y8 y9 y10 y11 y12
    refine ⟨z2, z3, z4, z5, z6, z7, z8, z9, z10, z11, z12, M2, ?_⟩
    rw [forD_cons, stp_nm]
    have ef : (fr s x2 x3 x4 x5 x6 x7 x8 x9 x10 x11 x12).set 2 (some d) = fr s (some d) x3 x4 x5 x6 x7 x8 x9 x10 x11 x12 := rfl
    rw [ef, e, aft_nx, e2]
theorem b_law_eq : b_law = sSq (sSet 1 (dCallF F__law_begun (dCons (dVar 0) (dNil)))) (sSq (sFor 4000 (iRg1 (dCons (dBin gAdd (dC (.int 3)) (dCallB gMin2 (dCons (dCallB gLen (dCons (dVar 0) (dNil))) (dCons (dC (.int 12)) (dNil))))) (dNil))) (gNm 2) lb) (sRt (dC (.bl true)))) := rfl
theorem pure_law : ∀ ns : List Int, ns.length ≤ 63 → (∀ z ∈ ns, PySem.Builtin.Int.intBits z ≤ 1048576) → ∃ M, F_law [.flst (ns.map DL.D.int)] [] = .ok (.bl true) M := by
  intro ns hl _
  obtain ⟨M, e, v⟩ := begun ns (by omega)
  have hlen : gLen M [.flst (ns.map D.int)] = some (.int ns.length) := by
    have z : gLen M [.flst (ns.map D.int)] = some (.int (ns.map D.int).length) := rfl
    rw [z, List.length_map]
  have hmin : gMin2 M [.int ns.length, .int 12] = some (.int (if (12 : Int) < ns.length then 12 else ns.length)) := rfl
  obtain ⟨m, hm, m0, m1⟩ : ∃ m : Int, gMin2 M [.int ns.length, .int 12] = some (.int m) ∧ 0 ≤ m ∧ m ≤ 12 := by
    refine ⟨_, hmin, ?_, ?_⟩ <;> split <;> omega
  obtain ⟨j, hj, j0, j1⟩ : ∃ j : Int, 3 + m = j ∧ 0 ≤ j ∧ j ≤ 15 := ⟨_, rfl, by omega, by omega⟩
  have hs : small62 j = true := small_of (by omega) (by omega)
  obtain ⟨y2, y3, y4, y5, y6, y7, y8, y9, y10, y11, y12, M', e'⟩ := turns_ok (intUp 0 j.toNat) v (by rw [intUp_len]; omega) (some (.flst (ns.map D.int))) none none none none none none none none none none none
  refine ⟨M', ?_⟩
  rw [F_law, fnD_eq]
  show outR (b_law [some (.flst (ns.map D.int)), none, none, none, none, none, none, none, none, none, none, none, none] []) = _
  rw [b_law_eq, sSq_eq, sSet_eq]
  simp only [dCallF_eq, dCons_eq, dNil_eq, dVar_0, bind_ok, e, thn_ok, List.set_cons_succ, List.set_cons_zero, seq_nx]
  rw [sSq_eq, sFor_eq]
  have er : iRg1 (dCons (dBin gAdd (dC (.int 3)) (dCallB gMin2 (dCons (dCallB gLen (dCons (dVar 0) (dNil))) (dCons (dC (.int 12)) (dNil))))) (dNil)) [some (.flst (ns.map D.int)), some (.own 1), none, none, none, none, none, none, none, none, none, none, none] M = .ok (IT.fix (intUp 0 j.toNat)) M := by
    simp only [iRg1_eq, dCons_eq, dNil_eq, dBin_eq, dC_eq, bind_ok, dCallB_eq, dVar_0, hlen, ofO_some', hm, gAdd_int, hj]
    exact kRg1_int hs
  rw [er, thn_ok, forI_fix, e', seq_nx]
  simp only [sRt_eq, dC_eq, thn_ok, outR_rt]
end K17
set_option maxHeartbeats 4000000
namespace K17
open PySem PySem.Spec PyProof.Rows L2 LamX DL
theorem all_mk {l : PySem.W.OpenLaw} {w : World} {K : PySem.W.Frag} {h : Heap} {mg : Str → Option Value} {fa : Addr} (X : K.In h) (Gm : h.Ns mainGlobals mg) (hfa : mg ("law" : Str) = some (.ref fa))
    {f8 f10 f11 f12 f13 f14 f15 f16 f17 f18 f19 f20 f21 f22 f23 f25 f26 f27 f28 f29 f30 f31 f32 f33 f34 f35 f36 f37 f38 f39 f40 f41 f42 f43 f44 f45 f46 f47 f48 C0 C1 C2 C3 C4 c46 P46 c47 P47 : Addr} {od8 an8 od10 an10 od11 an11 od12 an12 od13 an13 od14 an14 od15 an15 od16 an16 od17 an17 od18 an18 od19 an19 od20 an20 od21 an21 od22 an22 od23 an23 od25 an25 od26 an26 od27 an27 od28 an28 od29 an29 od30 an30 od31 an31 od32 an32 od33 an33 od34 an34 od35 an35 od36 an36 od37 an37 od38 an38 od39 an39 od40 an40 od41 an41 od42 an42 od43 an43 od44 an44 od45 an45 od46 an46 od47 an47 od48 an48 : Option Addr} {sl8 sl10 sl11 sl12 sl13 sl14 sl15 sl16 sl17 sl18 sl19 sl20 sl21 sl22 sl23 sl25 sl26 sl27 sl28 sl29 sl30 sl31 sl32 sl33 sl34 sl35 sl36 sl37 sl38 sl39 sl40 sl41 sl42 sl43 sl44 sl45 sl46 sl47 sl48 : Array (Option Value)}
    {oc8 kV8 dc8 pm8 ct8 cd8 oc10 kV10 dc10 pm10 ct10 cd10 oc11 kV11 dc11 pm11 ct11 cd11 oc12 kV12 dc12 pm12 ct12 cd12 oc13 kV13 dc13 pm13 ct13 cd13 oc14 kV14 dc14 pm14 ct14 cd14 oc15 kV15 dc15 pm15 ct15 cd15 oc16 kV16 dc16 pm16 ct16 cd16 oc17 kV17 dc17 pm17 ct17 cd17 oc18 kV18 dc18 pm18 ct18 cd18 oc19 kV19 dc19 pm19 ct19 cd19 oc20 kV20 dc20 pm20 ct20 cd20 oc21 kV21 dc21 pm21 ct21 cd21 oc22 kV22 dc22 pm22 ct22 cd22 oc23 kV23 dc23 pm23 ct23 cd23 oc25 kV25 dc25 pm25 ct25 cd25 oc26 kV26 dc26 pm26 ct26 cd26 oc27 kV27 dc27 pm27 ct27 cd27 oc28 kV28 dc28 pm28 ct28 cd28 oc29 kV29 dc29 pm29 ct29 cd29 oc30 kV30 dc30 pm30 ct30 cd30 oc31 kV31 dc31 pm31 ct31 cd31 oc32 kV32 dc32 pm32 ct32 cd32 oc33 kV33 dc33 pm33 ct33 cd33 oc34 kV34 dc34 pm34 ct34 cd34 oc35 kV35 dc35 pm35 ct35 cd35 oc36 kV36 dc36 pm36 ct36 cd36 oc37 kV37 dc37 pm37 ct37 cd37 oc38 kV38 dc38 pm38 ct38 cd38 oc39 kV39 dc39 pm39 ct39 cd39 oc40 kV40 dc40 pm40 ct40 cd40 oc41 kV41 dc41 pm41 ct41 cd41 oc42 kV42 dc42 pm42 ct42 cd42 oc43 kV43 dc43 pm43 ct43 cd43 oc44 kV44 dc44 pm44 ct44 cd44 oc45 kV45 dc45 pm45 ct45 cd45 oc46 kV46 dc46 pm46 ct46 oc47 kV47 dc47 pm47 ct47 oc48 kV48 dc48 pm48 ct48 cd48 : Value}
    {cdd46 cdd47 : Option Addr} {cvs46 cvs47 : Array Value} {csl46 csl47 : Array (Option Value)}
    (a8 : PySem.W.nsIn K mainGlobals ("is_number" : Str) = some (some (.ref f8)))
    (l8 : K.lookup f8 = some ⟨oc8, od8, .func (PySem.W.fnOf ("is_number" : Str) ("is_number" : Str) (defArgs s8) (defBody s8) (defScope s8) .none kV8 dc8 pm8 an8 cd8 ct8), sl8⟩)
    (h8 : PySem.W.codeIn K cd8 ("is_number" : Str) = true)
    (k8 : PySem.W.keepIn K (.ref f8) = true)
    (a10 : PySem.W.nsIn K mainGlobals ("is_pair" : Str) = some (some (.ref f10)))
    (l10 : K.lookup f10 = some ⟨oc10, od10, .func (PySem.W.fnOf ("is_pair" : Str) ("is_pair" : Str) (defArgs s10) (defBody s10) (defScope s10) .none kV10 dc10 pm10 an10 cd10 ct10), sl10⟩)
    (h10 : PySem.W.codeIn K cd10 ("is_pair" : Str) = true)
    (k10 : PySem.W.keepIn K (.ref f10) = true)
    (a11 : PySem.W.nsIn K mainGlobals ("is_price" : Str) = some (some (.ref f11)))
    (l11 : K.lookup f11 = some ⟨oc11, od11, .func (PySem.W.fnOf ("is_price" : Str) ("is_price" : Str) (defArgs s11) (defBody s11) (defScope s11) .none kV11 dc11 pm11 an11 cd11 ct11), sl11⟩)
    (h11 : PySem.W.codeIn K cd11 ("is_price" : Str) = true)
    (k11 : PySem.W.keepIn K (.ref f11) = true)
    (a12 : PySem.W.nsIn K mainGlobals ("need_pair" : Str) = some (some (.ref f12)))
    (l12 : K.lookup f12 = some ⟨oc12, od12, .func (PySem.W.fnOf ("need_pair" : Str) ("need_pair" : Str) (defArgs s12) (defBody s12) (defScope s12) .none kV12 dc12 pm12 an12 cd12 ct12), sl12⟩)
    (h12 : PySem.W.codeIn K cd12 ("need_pair" : Str) = true)
    (k12 : PySem.W.keepIn K (.ref f12) = true)
    (a13 : PySem.W.nsIn K mainGlobals ("need_price" : Str) = some (some (.ref f13)))
    (l13 : K.lookup f13 = some ⟨oc13, od13, .func (PySem.W.fnOf ("need_price" : Str) ("need_price" : Str) (defArgs s13) (defBody s13) (defScope s13) .none kV13 dc13 pm13 an13 cd13 ct13), sl13⟩)
    (h13 : PySem.W.codeIn K cd13 ("need_price" : Str) = true)
    (k13 : PySem.W.keepIn K (.ref f13) = true)
    (a14 : PySem.W.nsIn K mainGlobals ("least_terms" : Str) = some (some (.ref f14)))
    (l14 : K.lookup f14 = some ⟨oc14, od14, .func (PySem.W.fnOf ("least_terms" : Str) ("least_terms" : Str) (defArgs s14) (defBody s14) (defScope s14) .none kV14 dc14 pm14 an14 cd14 ct14), sl14⟩)
    (h14 : PySem.W.codeIn K cd14 ("least_terms" : Str) = true)
    (k14 : PySem.W.keepIn K (.ref f14) = true)
    (a15 : PySem.W.nsIn K mainGlobals ("price_of" : Str) = some (some (.ref f15)))
    (l15 : K.lookup f15 = some ⟨oc15, od15, .func (PySem.W.fnOf ("price_of" : Str) ("price_of" : Str) (defArgs s15) (defBody s15) (defScope s15) .none kV15 dc15 pm15 an15 cd15 ct15), sl15⟩)
    (h15 : PySem.W.codeIn K cd15 ("price_of" : Str) = true)
    (k15 : PySem.W.keepIn K (.ref f15) = true)
    (a16 : PySem.W.nsIn K mainGlobals ("leads" : Str) = some (some (.ref f16)))
    (l16 : K.lookup f16 = some ⟨oc16, od16, .func (PySem.W.fnOf ("leads" : Str) ("leads" : Str) (defArgs s16) (defBody s16) (defScope s16) .none kV16 dc16 pm16 an16 cd16 ct16), sl16⟩)
    (h16 : PySem.W.codeIn K cd16 ("leads" : Str) = true)
    (k16 : PySem.W.keepIn K (.ref f16) = true)
    (a17 : PySem.W.nsIn K mainGlobals ("is_ahead" : Str) = some (some (.ref f17)))
    (l17 : K.lookup f17 = some ⟨oc17, od17, .func (PySem.W.fnOf ("is_ahead" : Str) ("is_ahead" : Str) (defArgs s17) (defBody s17) (defScope s17) .none kV17 dc17 pm17 an17 cd17 ct17), sl17⟩)
    (h17 : PySem.W.codeIn K cd17 ("is_ahead" : Str) = true)
    (k17 : PySem.W.keepIn K (.ref f17) = true)
    (a18 : PySem.W.nsIn K mainGlobals ("weight" : Str) = some (some (.ref f18)))
    (l18 : K.lookup f18 = some ⟨oc18, od18, .func (PySem.W.fnOf ("weight" : Str) ("weight" : Str) (defArgs s18) (defBody s18) (defScope s18) .none kV18 dc18 pm18 an18 cd18 ct18), sl18⟩)
    (h18 : PySem.W.codeIn K cd18 ("weight" : Str) = true)
    (k18 : PySem.W.keepIn K (.ref f18) = true)
    (a19 : PySem.W.nsIn K mainGlobals ("worth" : Str) = some (some (.ref f19)))
    (l19 : K.lookup f19 = some ⟨oc19, od19, .func (PySem.W.fnOf ("worth" : Str) ("worth" : Str) (defArgs s19) (defBody s19) (defScope s19) .none kV19 dc19 pm19 an19 cd19 ct19), sl19⟩)
    (h19 : PySem.W.codeIn K cd19 ("worth" : Str) = true)
    (k19 : PySem.W.keepIn K (.ref f19) = true)
    (a20 : PySem.W.nsIn K mainGlobals ("between" : Str) = some (some (.ref f20)))
    (l20 : K.lookup f20 = some ⟨oc20, od20, .func (PySem.W.fnOf ("between" : Str) ("between" : Str) (defArgs s20) (defBody s20) (defScope s20) .none kV20 dc20 pm20 an20 cd20 ct20), sl20⟩)
    (h20 : PySem.W.codeIn K cd20 ("between" : Str) = true)
    (k20 : PySem.W.keepIn K (.ref f20) = true)
    (a21 : PySem.W.nsIn K mainGlobals ("amid" : Str) = some (some (.ref f21)))
    (l21 : K.lookup f21 = some ⟨oc21, od21, .func (PySem.W.fnOf ("amid" : Str) ("amid" : Str) (defArgs s21) (defBody s21) (defScope s21) .none kV21 dc21 pm21 an21 cd21 ct21), sl21⟩)
    (h21 : PySem.W.codeIn K cd21 ("amid" : Str) = true)
    (k21 : PySem.W.keepIn K (.ref f21) = true)
    (a22 : PySem.W.nsIn K mainGlobals ("alike_at" : Str) = some (some (.ref f22)))
    (l22 : K.lookup f22 = some ⟨oc22, od22, .func (PySem.W.fnOf ("alike_at" : Str) ("alike_at" : Str) (defArgs s22) (defBody s22) (defScope s22) .none kV22 dc22 pm22 an22 cd22 ct22), sl22⟩)
    (h22 : PySem.W.codeIn K cd22 ("alike_at" : Str) = true)
    (k22 : PySem.W.keepIn K (.ref f22) = true)
    (a23 : PySem.W.nsIn K mainGlobals ("meeting" : Str) = some (some (.ref f23)))
    (l23 : K.lookup f23 = some ⟨oc23, od23, .func (PySem.W.fnOf ("meeting" : Str) ("meeting" : Str) (defArgs s23) (defBody s23) (defScope s23) .none kV23 dc23 pm23 an23 cd23 ct23), sl23⟩)
    (h23 : PySem.W.codeIn K cd23 ("meeting" : Str) = true)
    (k23 : PySem.W.keepIn K (.ref f23) = true)
    (a25 : PySem.W.nsIn K mainGlobals ("_law_begun" : Str) = some (some (.ref f25)))
    (l25 : K.lookup f25 = some ⟨oc25, od25, .func (PySem.W.fnOf ("_law_begun" : Str) ("_law_begun" : Str) (defArgs s25) (defBody s25) (defScope s25) .none kV25 dc25 pm25 an25 cd25 ct25), sl25⟩)
    (h25 : PySem.W.codeIn K cd25 ("_law_begun" : Str) = true)
    (k25 : PySem.W.keepIn K (.ref f25) = true)
    (a26 : PySem.W.nsIn K mainGlobals ("_law_mixed" : Str) = some (some (.ref f26)))
    (l26 : K.lookup f26 = some ⟨oc26, od26, .func (PySem.W.fnOf ("_law_mixed" : Str) ("_law_mixed" : Str) (defArgs s26) (defBody s26) (defScope s26) .none kV26 dc26 pm26 an26 cd26 ct26), sl26⟩)
    (h26 : PySem.W.codeIn K cd26 ("_law_mixed" : Str) = true)
    (k26 : PySem.W.keepIn K (.ref f26) = true)
    (a27 : PySem.W.nsIn K mainGlobals ("_law_take" : Str) = some (some (.ref f27)))
    (l27 : K.lookup f27 = some ⟨oc27, od27, .func (PySem.W.fnOf ("_law_take" : Str) ("_law_take" : Str) (defArgs s27) (defBody s27) (defScope s27) .none kV27 dc27 pm27 an27 cd27 ct27), sl27⟩)
    (h27 : PySem.W.codeIn K cd27 ("_law_take" : Str) = true)
    (k27 : PySem.W.keepIn K (.ref f27) = true)
    (a28 : PySem.W.nsIn K mainGlobals ("_law_pick" : Str) = some (some (.ref f28)))
    (l28 : K.lookup f28 = some ⟨oc28, od28, .func (PySem.W.fnOf ("_law_pick" : Str) ("_law_pick" : Str) (defArgs s28) (defBody s28) (defScope s28) .none kV28 dc28 pm28 an28 cd28 ct28), sl28⟩)
    (h28 : PySem.W.codeIn K cd28 ("_law_pick" : Str) = true)
    (k28 : PySem.W.keepIn K (.ref f28) = true)
    (a29 : PySem.W.nsIn K mainGlobals ("_law_caught" : Str) = some (some (.ref f29)))
    (l29 : K.lookup f29 = some ⟨oc29, od29, .func (PySem.W.fnOf ("_law_caught" : Str) ("_law_caught" : Str) (defArgs s29) (defBody s29) (defScope s29) .none kV29 dc29 pm29 an29 cd29 ct29), sl29⟩)
    (h29 : PySem.W.codeIn K cd29 ("_law_caught" : Str) = true)
    (k29 : PySem.W.keepIn K (.ref f29) = true)
    (a30 : PySem.W.nsIn K mainGlobals ("_law_is_number" : Str) = some (some (.ref f30)))
    (l30 : K.lookup f30 = some ⟨oc30, od30, .func (PySem.W.fnOf ("_law_is_number" : Str) ("_law_is_number" : Str) (defArgs s30) (defBody s30) (defScope s30) .none kV30 dc30 pm30 an30 cd30 ct30), sl30⟩)
    (h30 : PySem.W.codeIn K cd30 ("_law_is_number" : Str) = true)
    (k30 : PySem.W.keepIn K (.ref f30) = true)
    (a31 : PySem.W.nsIn K mainGlobals ("_law_says" : Str) = some (some (.ref f31)))
    (l31 : K.lookup f31 = some ⟨oc31, od31, .func (PySem.W.fnOf ("_law_says" : Str) ("_law_says" : Str) (defArgs s31) (defBody s31) (defScope s31) .none kV31 dc31 pm31 an31 cd31 ct31), sl31⟩)
    (h31 : PySem.W.codeIn K cd31 ("_law_says" : Str) = true)
    (k31 : PySem.W.keepIn K (.ref f31) = true)
    (a32 : PySem.W.nsIn K mainGlobals ("_law_gcd" : Str) = some (some (.ref f32)))
    (l32 : K.lookup f32 = some ⟨oc32, od32, .func (PySem.W.fnOf ("_law_gcd" : Str) ("_law_gcd" : Str) (defArgs s32) (defBody s32) (defScope s32) .none kV32 dc32 pm32 an32 cd32 ct32), sl32⟩)
    (h32 : PySem.W.codeIn K cd32 ("_law_gcd" : Str) = true)
    (k32 : PySem.W.keepIn K (.ref f32) = true)
    (a33 : PySem.W.nsIn K mainGlobals ("_law_terms" : Str) = some (some (.ref f33)))
    (l33 : K.lookup f33 = some ⟨oc33, od33, .func (PySem.W.fnOf ("_law_terms" : Str) ("_law_terms" : Str) (defArgs s33) (defBody s33) (defScope s33) .none kV33 dc33 pm33 an33 cd33 ct33), sl33⟩)
    (h33 : PySem.W.codeIn K cd33 ("_law_terms" : Str) = true)
    (k33 : PySem.W.keepIn K (.ref f33) = true)
    (a34 : PySem.W.nsIn K mainGlobals ("_law_leads" : Str) = some (some (.ref f34)))
    (l34 : K.lookup f34 = some ⟨oc34, od34, .func (PySem.W.fnOf ("_law_leads" : Str) ("_law_leads" : Str) (defArgs s34) (defBody s34) (defScope s34) .none kV34 dc34 pm34 an34 cd34 ct34), sl34⟩)
    (h34 : PySem.W.codeIn K cd34 ("_law_leads" : Str) = true)
    (k34 : PySem.W.keepIn K (.ref f34) = true)
    (a35 : PySem.W.nsIn K mainGlobals ("_law_is_pair" : Str) = some (some (.ref f35)))
    (l35 : K.lookup f35 = some ⟨oc35, od35, .func (PySem.W.fnOf ("_law_is_pair" : Str) ("_law_is_pair" : Str) (defArgs s35) (defBody s35) (defScope s35) .none kV35 dc35 pm35 an35 cd35 ct35), sl35⟩)
    (h35 : PySem.W.codeIn K cd35 ("_law_is_pair" : Str) = true)
    (k35 : PySem.W.keepIn K (.ref f35) = true)
    (a36 : PySem.W.nsIn K mainGlobals ("_law_is_price" : Str) = some (some (.ref f36)))
    (l36 : K.lookup f36 = some ⟨oc36, od36, .func (PySem.W.fnOf ("_law_is_price" : Str) ("_law_is_price" : Str) (defArgs s36) (defBody s36) (defScope s36) .none kV36 dc36 pm36 an36 cd36 ct36), sl36⟩)
    (h36 : PySem.W.codeIn K cd36 ("_law_is_price" : Str) = true)
    (k36 : PySem.W.keepIn K (.ref f36) = true)
    (a37 : PySem.W.nsIn K mainGlobals ("_law_worth" : Str) = some (some (.ref f37)))
    (l37 : K.lookup f37 = some ⟨oc37, od37, .func (PySem.W.fnOf ("_law_worth" : Str) ("_law_worth" : Str) (defArgs s37) (defBody s37) (defScope s37) .none kV37 dc37 pm37 an37 cd37 ct37), sl37⟩)
    (h37 : PySem.W.codeIn K cd37 ("_law_worth" : Str) = true)
    (k37 : PySem.W.keepIn K (.ref f37) = true)
    (a38 : PySem.W.nsIn K mainGlobals ("_law_meet" : Str) = some (some (.ref f38)))
    (l38 : K.lookup f38 = some ⟨oc38, od38, .func (PySem.W.fnOf ("_law_meet" : Str) ("_law_meet" : Str) (defArgs s38) (defBody s38) (defScope s38) .none kV38 dc38 pm38 an38 cd38 ct38), sl38⟩)
    (h38 : PySem.W.codeIn K cd38 ("_law_meet" : Str) = true)
    (k38 : PySem.W.keepIn K (.ref f38) = true)
    (a39 : PySem.W.nsIn K mainGlobals ("_law_amount" : Str) = some (some (.ref f39)))
    (l39 : K.lookup f39 = some ⟨oc39, od39, .func (PySem.W.fnOf ("_law_amount" : Str) ("_law_amount" : Str) (defArgs s39) (defBody s39) (defScope s39) .none kV39 dc39 pm39 an39 cd39 ct39), sl39⟩)
    (h39 : PySem.W.codeIn K cd39 ("_law_amount" : Str) = true)
    (k39 : PySem.W.keepIn K (.ref f39) = true)
    (a40 : PySem.W.nsIn K mainGlobals ("_law_spot" : Str) = some (some (.ref f40)))
    (l40 : K.lookup f40 = some ⟨oc40, od40, .func (PySem.W.fnOf ("_law_spot" : Str) ("_law_spot" : Str) (defArgs s40) (defBody s40) (defScope s40) .none kV40 dc40 pm40 an40 cd40 ct40), sl40⟩)
    (h40 : PySem.W.codeIn K cd40 ("_law_spot" : Str) = true)
    (k40 : PySem.W.keepIn K (.ref f40) = true)
    (a41 : PySem.W.nsIn K mainGlobals ("_law_pair" : Str) = some (some (.ref f41)))
    (l41 : K.lookup f41 = some ⟨oc41, od41, .func (PySem.W.fnOf ("_law_pair" : Str) ("_law_pair" : Str) (defArgs s41) (defBody s41) (defScope s41) .none kV41 dc41 pm41 an41 cd41 ct41), sl41⟩)
    (h41 : PySem.W.codeIn K cd41 ("_law_pair" : Str) = true)
    (k41 : PySem.W.keepIn K (.ref f41) = true)
    (a42 : PySem.W.nsIn K mainGlobals ("_law_peak" : Str) = some (some (.ref f42)))
    (l42 : K.lookup f42 = some ⟨oc42, od42, .func (PySem.W.fnOf ("_law_peak" : Str) ("_law_peak" : Str) (defArgs s42) (defBody s42) (defScope s42) .none kV42 dc42 pm42 an42 cd42 ct42), sl42⟩)
    (h42 : PySem.W.codeIn K cd42 ("_law_peak" : Str) = true)
    (k42 : PySem.W.keepIn K (.ref f42) = true)
    (a43 : PySem.W.nsIn K mainGlobals ("_law_same" : Str) = some (some (.ref f43)))
    (l43 : K.lookup f43 = some ⟨oc43, od43, .func (PySem.W.fnOf ("_law_same" : Str) ("_law_same" : Str) (defArgs s43) (defBody s43) (defScope s43) .none kV43 dc43 pm43 an43 cd43 ct43), sl43⟩)
    (h43 : PySem.W.codeIn K cd43 ("_law_same" : Str) = true)
    (k43 : PySem.W.keepIn K (.ref f43) = true)
    (a44 : PySem.W.nsIn K mainGlobals ("_law_strange" : Str) = some (some (.ref f44)))
    (l44 : K.lookup f44 = some ⟨oc44, od44, .func (PySem.W.fnOf ("_law_strange" : Str) ("_law_strange" : Str) (defArgs s44) (defBody s44) (defScope s44) .none kV44 dc44 pm44 an44 cd44 ct44), sl44⟩)
    (h44 : PySem.W.codeIn K cd44 ("_law_strange" : Str) = true)
    (k44 : PySem.W.keepIn K (.ref f44) = true)
    (a45 : PySem.W.nsIn K mainGlobals ("_law_no_price" : Str) = some (some (.ref f45)))
    (l45 : K.lookup f45 = some ⟨oc45, od45, .func (PySem.W.fnOf ("_law_no_price" : Str) ("_law_no_price" : Str) (defArgs s45) (defBody s45) (defScope s45) .none kV45 dc45 pm45 an45 cd45 ct45), sl45⟩)
    (h45 : PySem.W.codeIn K cd45 ("_law_no_price" : Str) = true)
    (k45 : PySem.W.keepIn K (.ref f45) = true)
    (a46 : PySem.W.nsIn K mainGlobals ("_law_refused" : Str) = some (some (.ref f46)))
    (l46 : K.lookup f46 = some ⟨oc46, od46, .func (PySem.W.fnOf ("_law_refused" : Str) ("_law_refused" : Str) (defArgs s46) (defBody s46) (defScope s46) .none kV46 dc46 pm46 an46 (.ref c46) ct46), sl46⟩)
    (h46 : PySem.W.codeIn K (.ref c46) ("_law_refused" : Str) = true)
    (k46 : PySem.W.keepIn K (.ref f46) = true)
    (a47 : PySem.W.nsIn K mainGlobals ("_law_ordered" : Str) = some (some (.ref f47)))
    (l47 : K.lookup f47 = some ⟨oc47, od47, .func (PySem.W.fnOf ("_law_ordered" : Str) ("_law_ordered" : Str) (defArgs s47) (defBody s47) (defScope s47) .none kV47 dc47 pm47 an47 (.ref c47) ct47), sl47⟩)
    (h47 : PySem.W.codeIn K (.ref c47) ("_law_ordered" : Str) = true)
    (k47 : PySem.W.keepIn K (.ref f47) = true)
    (a48 : PySem.W.nsIn K mainGlobals ("law" : Str) = some (some (.ref f48)))
    (l48 : K.lookup f48 = some ⟨oc48, od48, .func (PySem.W.fnOf ("law" : Str) ("law" : Str) (defArgs s48) (defBody s48) (defScope s48) .none kV48 dc48 pm48 an48 cd48 ct48), sl48⟩)
    (h48 : PySem.W.codeIn K cd48 ("law" : Str) = true)
    (k48 : PySem.W.keepIn K (.ref f48) = true)
    (ea0 : PySem.W.nsIn K mainGlobals ("ClockError" : Str) = some (some (.ref C0)))
    (eq0 : PySem.W.excIn K C0 [.type "ValueError", .type "Exception", .type "BaseException", .type "object"] "ValueError.__new__" = true)
    (ek0 : PySem.W.keepIn K (.ref C0) = true)
    (es0 : PySem.W.subIn K (.ref C0) (.type "BaseException") = some true)
    (et0 : PySem.W.typeIn K (.ref C0) = some (.type "type"))
    (eg0 : PySem.W.findIn K (.ref C0) "__getattribute__" = some (some (.builtin "BaseException.__getattribute__")))
    (eh0 : PySem.W.findIn K (.ref C0) "__getattr__" = some none)
    (ed0 : PySem.W.hasDictIn K C0 = true)
    (ec0 : PySem.W.findIn K (.ref C0) "__class__" = some (some (.builtin "object.__class__")))
    (em0 : PySem.W.mroIn K C0 (.type "object") = some true)
    (ea1 : PySem.W.nsIn K mainGlobals ("BadPrice" : Str) = some (some (.ref C1)))
    (eq1 : PySem.W.excIn K C1 [.type "ValueError", .type "Exception", .type "BaseException", .type "object"] "ValueError.__new__" = true)
    (ek1 : PySem.W.keepIn K (.ref C1) = true)
    (es1 : PySem.W.subIn K (.ref C1) (.type "BaseException") = some true)
    (et1 : PySem.W.typeIn K (.ref C1) = some (.type "type"))
    (eg1 : PySem.W.findIn K (.ref C1) "__getattribute__" = some (some (.builtin "BaseException.__getattribute__")))
    (eh1 : PySem.W.findIn K (.ref C1) "__getattr__" = some none)
    (ed1 : PySem.W.hasDictIn K C1 = true)
    (ec1 : PySem.W.findIn K (.ref C1) "__class__" = some (some (.builtin "object.__class__")))
    (em1 : PySem.W.mroIn K C1 (.type "object") = some true)
    (ea2 : PySem.W.nsIn K mainGlobals ("BadNumber" : Str) = some (some (.ref C2)))
    (eq2 : PySem.W.excIn K C2 [.type "ValueError", .type "Exception", .type "BaseException", .type "object"] "ValueError.__new__" = true)
    (ek2 : PySem.W.keepIn K (.ref C2) = true)
    (es2 : PySem.W.subIn K (.ref C2) (.type "BaseException") = some true)
    (et2 : PySem.W.typeIn K (.ref C2) = some (.type "type"))
    (eg2 : PySem.W.findIn K (.ref C2) "__getattribute__" = some (some (.builtin "BaseException.__getattribute__")))
    (eh2 : PySem.W.findIn K (.ref C2) "__getattr__" = some none)
    (ed2 : PySem.W.hasDictIn K C2 = true)
    (ec2 : PySem.W.findIn K (.ref C2) "__class__" = some (some (.builtin "object.__class__")))
    (em2 : PySem.W.mroIn K C2 (.type "object") = some true)
    (ea3 : PySem.W.nsIn K mainGlobals ("BadPair" : Str) = some (some (.ref C3)))
    (eq3 : PySem.W.excIn K C3 [.type "ValueError", .type "Exception", .type "BaseException", .type "object"] "ValueError.__new__" = true)
    (ek3 : PySem.W.keepIn K (.ref C3) = true)
    (es3 : PySem.W.subIn K (.ref C3) (.type "BaseException") = some true)
    (et3 : PySem.W.typeIn K (.ref C3) = some (.type "type"))
    (eg3 : PySem.W.findIn K (.ref C3) "__getattribute__" = some (some (.builtin "BaseException.__getattribute__")))
    (eh3 : PySem.W.findIn K (.ref C3) "__getattr__" = some none)
    (ed3 : PySem.W.hasDictIn K C3 = true)
    (ec3 : PySem.W.findIn K (.ref C3) "__class__" = some (some (.builtin "object.__class__")))
    (em3 : PySem.W.mroIn K C3 (.type "object") = some true)
    (ea4 : PySem.W.nsIn K mainGlobals ("NotAhead" : Str) = some (some (.ref C4)))
    (eq4 : PySem.W.excIn K C4 [.type "ValueError", .type "Exception", .type "BaseException", .type "object"] "ValueError.__new__" = true)
    (ek4 : PySem.W.keepIn K (.ref C4) = true)
    (es4 : PySem.W.subIn K (.ref C4) (.type "BaseException") = some true)
    (et4 : PySem.W.typeIn K (.ref C4) = some (.type "type"))
    (eg4 : PySem.W.findIn K (.ref C4) "__getattribute__" = some (some (.builtin "BaseException.__getattribute__")))
    (eh4 : PySem.W.findIn K (.ref C4) "__getattr__" = some none)
    (ed4 : PySem.W.hasDictIn K C4 = true)
    (ec4 : PySem.W.findIn K (.ref C4) "__class__" = some (some (.builtin "object.__class__")))
    (em4 : PySem.W.mroIn K C4 (.type "object") = some true)
    (xn : PySem.W.specialIn K (.builtin "object.__class__") "__get__" = some (some (.builtin "getset_descriptor.__get__")))
    (xt : PySem.W.takesIn K (.builtin "object.__class__") = some true)
    (kn_BadPrice : PySem.W.kitOne K (.type "NoneType") (.ref C1) = some false)
    (k0_BadPrice : PySem.W.kitOne K (.ref C0) (.ref C1) = some false)
    (k1_BadPrice : PySem.W.kitOne K (.ref C1) (.ref C1) = some true)
    (k2_BadPrice : PySem.W.kitOne K (.ref C2) (.ref C1) = some false)
    (k3_BadPrice : PySem.W.kitOne K (.ref C3) (.ref C1) = some false)
    (k4_BadPrice : PySem.W.kitOne K (.ref C4) (.ref C1) = some false)
    (kn_BadNumber : PySem.W.kitOne K (.type "NoneType") (.ref C2) = some false)
    (k0_BadNumber : PySem.W.kitOne K (.ref C0) (.ref C2) = some false)
    (k1_BadNumber : PySem.W.kitOne K (.ref C1) (.ref C2) = some false)
    (k2_BadNumber : PySem.W.kitOne K (.ref C2) (.ref C2) = some true)
    (k3_BadNumber : PySem.W.kitOne K (.ref C3) (.ref C2) = some false)
    (k4_BadNumber : PySem.W.kitOne K (.ref C4) (.ref C2) = some false)
    (kn_BadPair : PySem.W.kitOne K (.type "NoneType") (.ref C3) = some false)
    (k0_BadPair : PySem.W.kitOne K (.ref C0) (.ref C3) = some false)
    (k1_BadPair : PySem.W.kitOne K (.ref C1) (.ref C3) = some false)
    (k2_BadPair : PySem.W.kitOne K (.ref C2) (.ref C3) = some false)
    (k3_BadPair : PySem.W.kitOne K (.ref C3) (.ref C3) = some true)
    (k4_BadPair : PySem.W.kitOne K (.ref C4) (.ref C3) = some false)
    (kn_NotAhead : PySem.W.kitOne K (.type "NoneType") (.ref C4) = some false)
    (k0_NotAhead : PySem.W.kitOne K (.ref C0) (.ref C4) = some false)
    (k1_NotAhead : PySem.W.kitOne K (.ref C1) (.ref C4) = some false)
    (k2_NotAhead : PySem.W.kitOne K (.ref C2) (.ref C4) = some false)
    (k3_NotAhead : PySem.W.kitOne K (.ref C3) (.ref C4) = some false)
    (k4_NotAhead : PySem.W.kitOne K (.ref C4) (.ref C4) = some true)
    (ex0 : PySem.W.exmOne K (.ref C0) (.ref C0) = some true)
    (ex1 : PySem.W.exmOne K (.ref C1) (.ref C0) = some true)
    (ex2 : PySem.W.exmOne K (.ref C2) (.ref C0) = some true)
    (ex3 : PySem.W.exmOne K (.ref C3) (.ref C0) = some true)
    (ex4 : PySem.W.exmOne K (.ref C4) (.ref C0) = some true)
    (z_abs : PySem.W.nsIn K mainGlobals ("abs" : Str) = some none)
    (z_bool : PySem.W.nsIn K mainGlobals ("bool" : Str) = some none)
    (z_gcd : PySem.W.nsIn K mainGlobals ("gcd" : Str) = some (some (.builtin "math.gcd")))
    (z_int : PySem.W.nsIn K mainGlobals ("int" : Str) = some none)
    (z_isinstance : PySem.W.nsIn K mainGlobals ("isinstance" : Str) = some none)
    (z_len : PySem.W.nsIn K mainGlobals ("len" : Str) = some none)
    (z_min : PySem.W.nsIn K mainGlobals ("min" : Str) = some none)
    (z_range : PySem.W.nsIn K mainGlobals ("range" : Str) = some none)
    (z_repr : PySem.W.nsIn K mainGlobals ("repr" : Str) = some none)
    (z_tuple : PySem.W.nsIn K mainGlobals ("tuple" : Str) = some none)
    (tl46 : K.lookup c46 = some ⟨.type "code", cdd46, .fields cvs46, csl46⟩)
    (tv46 : cvs46[11]? = some (.ref P46))
    (tt46 : h.get? P46 = some { cls := .none, data := .fields #[] } ∧ PySem.W.codeHdIn K c46 P46 = true ∧ K.lookup P46 = none)
    (tl47 : K.lookup c47 = some ⟨.type "code", cdd47, .fields cvs47, csl47⟩)
    (tv47 : cvs47[11]? = some (.ref P47))
    (tt47 : h.get? P47 = some { cls := .none, data := .fields #[] } ∧ PySem.W.codeHdIn K c47 P47 = true ∧ K.lookup P47 = none)
    (tw46_47 : P46 ≠ P47)
    : LawG l w K 10 63 "_law_script" mg fa h := by
  have e0 : f48 = fa := by
    have z := (PySem.W.mg_of X Gm a48).symm.trans hfa
    cases z
    rfl
  subst e0
  let a : Ad := ⟨f8, f10, f11, f12, f13, f14, f15, f16, f17, f18, f19, f20, f21, f22, f23, f25, f26, f27, f28, f29, f30, f31, f32, f33, f34, f35, f36, f37, f38, f39, f40, f41, f42, f43, f44, f45, f46, f47, f48, C0, C1, C2, C3, C4, c46, c47, P46, P47, PySem.W.fnOf ("is_number" : Str) ("is_number" : Str) (defArgs s8) (defBody s8) (defScope s8) .none kV8 dc8 pm8 an8 cd8 ct8, PySem.W.fnOf ("is_pair" : Str) ("is_pair" : Str) (defArgs s10) (defBody s10) (defScope s10) .none kV10 dc10 pm10 an10 cd10 ct10, PySem.W.fnOf ("is_price" : Str) ("is_price" : Str) (defArgs s11) (defBody s11) (defScope s11) .none kV11 dc11 pm11 an11 cd11 ct11, PySem.W.fnOf ("need_pair" : Str) ("need_pair" : Str) (defArgs s12) (defBody s12) (defScope s12) .none kV12 dc12 pm12 an12 cd12 ct12, PySem.W.fnOf ("need_price" : Str) ("need_price" : Str) (defArgs s13) (defBody s13) (defScope s13) .none kV13 dc13 pm13 an13 cd13 ct13, PySem.W.fnOf ("least_terms" : Str) ("least_terms" : Str) (defArgs s14) (defBody s14) (defScope s14) .none kV14 dc14 pm14 an14 cd14 ct14, PySem.W.fnOf ("price_of" : Str) ("price_of" : Str) (defArgs s15) (defBody s15) (defScope s15) .none kV15 dc15 pm15 an15 cd15 ct15, PySem.W.fnOf ("leads" : Str) ("leads" : Str) (defArgs s16) (defBody s16) (defScope s16) .none kV16 dc16 pm16 an16 cd16 ct16, PySem.W.fnOf ("is_ahead" : Str) ("is_ahead" : Str) (defArgs s17) (defBody s17) (defScope s17) .none kV17 dc17 pm17 an17 cd17 ct17, PySem.W.fnOf ("weight" : Str) ("weight" : Str) (defArgs s18) (defBody s18) (defScope s18) .none kV18 dc18 pm18 an18 cd18 ct18, PySem.W.fnOf ("worth" : Str) ("worth" : Str) (defArgs s19) (defBody s19) (defScope s19) .none kV19 dc19 pm19 an19 cd19 ct19, PySem.W.fnOf ("between" : Str) ("between" : Str) (defArgs s20) (defBody s20) (defScope s20) .none kV20 dc20 pm20 an20 cd20 ct20, PySem.W.fnOf ("amid" : Str) ("amid" : Str) (defArgs s21) (defBody s21) (defScope s21) .none kV21 dc21 pm21 an21 cd21 ct21, PySem.W.fnOf ("alike_at" : Str) ("alike_at" : Str) (defArgs s22) (defBody s22) (defScope s22) .none kV22 dc22 pm22 an22 cd22 ct22, PySem.W.fnOf ("meeting" : Str) ("meeting" : Str) (defArgs s23) (defBody s23) (defScope s23) .none kV23 dc23 pm23 an23 cd23 ct23, PySem.W.fnOf ("_law_begun" : Str) ("_law_begun" : Str) (defArgs s25) (defBody s25) (defScope s25) .none kV25 dc25 pm25 an25 cd25 ct25, PySem.W.fnOf ("_law_mixed" : Str) ("_law_mixed" : Str) (defArgs s26) (defBody s26) (defScope s26) .none kV26 dc26 pm26 an26 cd26 ct26, PySem.W.fnOf ("_law_take" : Str) ("_law_take" : Str) (defArgs s27) (defBody s27) (defScope s27) .none kV27 dc27 pm27 an27 cd27 ct27, PySem.W.fnOf ("_law_pick" : Str) ("_law_pick" : Str) (defArgs s28) (defBody s28) (defScope s28) .none kV28 dc28 pm28 an28 cd28 ct28, PySem.W.fnOf ("_law_caught" : Str) ("_law_caught" : Str) (defArgs s29) (defBody s29) (defScope s29) .none kV29 dc29 pm29 an29 cd29 ct29, PySem.W.fnOf ("_law_is_number" : Str) ("_law_is_number" : Str) (defArgs s30) (defBody s30) (defScope s30) .none kV30 dc30 pm30 an30 cd30 ct30, PySem.W.fnOf ("_law_says" : Str) ("_law_says" : Str) (defArgs s31) (defBody s31) (defScope s31) .none kV31 dc31 pm31 an31 cd31 ct31, PySem.W.fnOf ("_law_gcd" : Str) ("_law_gcd" : Str) (defArgs s32) (defBody s32) (defScope s32) .none kV32 dc32 pm32 an32 cd32 ct32, PySem.W.fnOf ("_law_terms" : Str) ("_law_terms" : Str) (defArgs s33) (defBody s33) (defScope s33) .none kV33 dc33 pm33 an33 cd33 ct33, PySem.W.fnOf ("_law_leads" : Str) ("_law_leads" : Str) (defArgs s34) (defBody s34) (defScope s34) .none kV34 dc34 pm34 an34 cd34 ct34, PySem.W.fnOf ("_law_is_pair" : Str) ("_law_is_pair" : Str) (defArgs s35) (defBody s35) (defScope s35) .none kV35 dc35 pm35 an35 cd35 ct35, PySem.W.fnOf ("_law_is_price" : Str) ("_law_is_price" : Str) (defArgs s36) (defBody s36) (defScope s36) .none kV36 dc36 pm36 an36 cd36 ct36, PySem.W.fnOf ("_law_worth" : Str) ("_law_worth" : Str) (defArgs s37) (defBody s37) (defScope s37) .none kV37 dc37 pm37 an37 cd37 ct37, PySem.W.fnOf ("_law_meet" : Str) ("_law_meet" : Str) (defArgs s38) (defBody s38) (defScope s38) .none kV38 dc38 pm38 an38 cd38 ct38, PySem.W.fnOf ("_law_amount" : Str) ("_law_amount" : Str) (defArgs s39) (defBody s39) (defScope s39) .none kV39 dc39 pm39 an39 cd39 ct39, PySem.W.fnOf ("_law_spot" : Str) ("_law_spot" : Str) (defArgs s40) (defBody s40) (defScope s40) .none kV40 dc40 pm40 an40 cd40 ct40, PySem.W.fnOf ("_law_pair" : Str) ("_law_pair" : Str) (defArgs s41) (defBody s41) (defScope s41) .none kV41 dc41 pm41 an41 cd41 ct41, PySem.W.fnOf ("_law_peak" : Str) ("_law_peak" : Str) (defArgs s42) (defBody s42) (defScope s42) .none kV42 dc42 pm42 an42 cd42 ct42, PySem.W.fnOf ("_law_same" : Str) ("_law_same" : Str) (defArgs s43) (defBody s43) (defScope s43) .none kV43 dc43 pm43 an43 cd43 ct43, PySem.W.fnOf ("_law_strange" : Str) ("_law_strange" : Str) (defArgs s44) (defBody s44) (defScope s44) .none kV44 dc44 pm44 an44 cd44 ct44, PySem.W.fnOf ("_law_no_price" : Str) ("_law_no_price" : Str) (defArgs s45) (defBody s45) (defScope s45) .none kV45 dc45 pm45 an45 cd45 ct45, PySem.W.fnOf ("_law_refused" : Str) ("_law_refused" : Str) (defArgs s46) (defBody s46) (defScope s46) .none kV46 dc46 pm46 an46 (.ref c46) ct46, PySem.W.fnOf ("_law_ordered" : Str) ("_law_ordered" : Str) (defArgs s47) (defBody s47) (defScope s47) .none kV47 dc47 pm47 an47 (.ref c47) ct47, PySem.W.fnOf ("law" : Str) ("law" : Str) (defArgs s48) (defBody s48) (defScope s48) .none kV48 dc48 pm48 an48 cd48 ct48⟩
  have xc0 : ExcC K C0 := ⟨eg0, eh0, es0, ed0, ec0, xn, xt, em0⟩
  have xc1 : ExcC K C1 := ⟨eg1, eh1, es1, ed1, ec1, xn, xt, em1⟩
  have xc2 : ExcC K C2 := ⟨eg2, eh2, es2, ed2, ec2, xn, xt, em2⟩
  have xc3 : ExcC K C3 := ⟨eg3, eh3, es3, ed3, ec3, xn, xt, em3⟩
  have xc4 : ExcC K C4 := ⟨eg4, eh4, es4, ed4, ec4, xn, xt, em4⟩
  have T : Txt K mg a := ⟨fun_mk l8 h8 k8, PySem.W.mg_of X Gm a8, fun_mk l10 h10 k10, PySem.W.mg_of X Gm a10, fun_mk l11 h11 k11, PySem.W.mg_of X Gm a11, fun_mk l12 h12 k12, PySem.W.mg_of X Gm a12, fun_mk l13 h13 k13, PySem.W.mg_of X Gm a13, fun_mk l14 h14 k14, PySem.W.mg_of X Gm a14, fun_mk l15 h15 k15, PySem.W.mg_of X Gm a15, fun_mk l16 h16 k16, PySem.W.mg_of X Gm a16, fun_mk l17 h17 k17, PySem.W.mg_of X Gm a17, fun_mk l18 h18 k18, PySem.W.mg_of X Gm a18, fun_mk l19 h19 k19, PySem.W.mg_of X Gm a19, fun_mk l20 h20 k20, PySem.W.mg_of X Gm a20, fun_mk l21 h21 k21, PySem.W.mg_of X Gm a21, fun_mk l22 h22 k22, PySem.W.mg_of X Gm a22, fun_mk l23 h23 k23, PySem.W.mg_of X Gm a23, fun_mk l25 h25 k25, PySem.W.mg_of X Gm a25, fun_mk l26 h26 k26, PySem.W.mg_of X Gm a26, fun_mk l27 h27 k27, PySem.W.mg_of X Gm a27, fun_mk l28 h28 k28, PySem.W.mg_of X Gm a28, fun_mk l29 h29 k29, PySem.W.mg_of X Gm a29, fun_mk l30 h30 k30, PySem.W.mg_of X Gm a30, fun_mk l31 h31 k31, PySem.W.mg_of X Gm a31, fun_mk l32 h32 k32, PySem.W.mg_of X Gm a32, fun_mk l33 h33 k33, PySem.W.mg_of X Gm a33, fun_mk l34 h34 k34, PySem.W.mg_of X Gm a34, fun_mk l35 h35 k35, PySem.W.mg_of X Gm a35, fun_mk l36 h36 k36, PySem.W.mg_of X Gm a36, fun_mk l37 h37 k37, PySem.W.mg_of X Gm a37, fun_mk l38 h38 k38, PySem.W.mg_of X Gm a38, fun_mk l39 h39 k39, PySem.W.mg_of X Gm a39, fun_mk l40 h40 k40, PySem.W.mg_of X Gm a40, fun_mk l41 h41 k41, PySem.W.mg_of X Gm a41, fun_mk l42 h42 k42, PySem.W.mg_of X Gm a42, fun_mk l43 h43 k43, PySem.W.mg_of X Gm a43, fun_mk l44 h44 k44, PySem.W.mg_of X Gm a44, fun_mk l45 h45 k45, PySem.W.mg_of X Gm a45, funC_mk l46 h46 k46, PySem.W.mg_of X Gm a46, funC_mk l47 h47 k47, PySem.W.mg_of X Gm a47, fun_mk l48 h48 k48, PySem.W.mg_of X Gm a48, ⟨rfl, ⟨_, _, _, _, PySem.F.excBase_ValueError, eq0⟩, PySem.W.mg_of X Gm ea0, ek0, es0, et0⟩, ⟨rfl, ⟨_, _, _, _, PySem.F.excBase_ValueError, eq1⟩, PySem.W.mg_of X Gm ea1, ek1, es1, et1⟩, ⟨rfl, ⟨_, _, _, _, PySem.F.excBase_ValueError, eq2⟩, PySem.W.mg_of X Gm ea2, ek2, es2, et2⟩, ⟨rfl, ⟨_, _, _, _, PySem.F.excBase_ValueError, eq3⟩, PySem.W.mg_of X Gm ea3, ek3, es3, et3⟩, ⟨rfl, ⟨_, _, _, _, PySem.F.excBase_ValueError, eq4⟩, PySem.W.mg_of X Gm ea4, ek4, es4, et4⟩, PySem.W.mg_none_of X Gm z_abs, PySem.W.mg_none_of X Gm z_bool, PySem.W.mg_of X Gm z_gcd, PySem.W.mg_none_of X Gm z_int, PySem.W.mg_none_of X Gm z_isinstance, PySem.W.mg_none_of X Gm z_len, PySem.W.mg_none_of X Gm z_min, PySem.W.mg_none_of X Gm z_range, PySem.W.mg_none_of X Gm z_repr, PySem.W.mg_none_of X Gm z_tuple, ⟨fun c C hc => by simp at hc, fun c C hc => by
    match c, hc with
    | 0, hc => cases hc; exact xc0
    | 1, hc => cases hc; exact xc1
    | 2, hc => cases hc; exact xc2
    | 3, hc => cases hc; exact xc3
    | 4, hc => cases hc; exact xc4
    | n + 5, hc => simp at hc⟩, kn_BadPrice, k0_BadPrice, k1_BadPrice, k2_BadPrice, k3_BadPrice, k4_BadPrice, kn_BadNumber, k0_BadNumber, k1_BadNumber, k2_BadNumber, k3_BadNumber, k4_BadNumber, kn_BadPair, k0_BadPair, k1_BadPair, k2_BadPair, k3_BadPair, k4_BadPair, kn_NotAhead, k0_NotAhead, k1_NotAhead, k2_NotAhead, k3_NotAhead, k4_NotAhead, ex0, ex1, ex2, ex3, ex4, tw46_47⟩
  refine ⟨_, [(c46, P46), (c47, P47)], spD (Gk K a) 1 F_law, fun p hp => by
    simp only [List.mem_cons, List.not_mem_nil, or_false] at hp
    rcases hp with rfl | rfl
    · exact tt46.1
    · exact tt47.1,
  fun p hp => by
    simp only [List.mem_cons, List.not_mem_nil, or_false] at hp
    rcases hp with rfl | rfl
    · exact tt46.2.2
    · exact tt47.2.2,
  fun p hp => by
    simp only [List.mem_cons, List.not_mem_nil, or_false] at hp
    rcases hp with rfl | rfl
    · exact PySem.W.codeHd_of_K X tt46.2.1
    · exact PySem.W.codeHd_of_K X tt47.2.1, fun s u => .of_eq rfl, fun H x ns hl hb hH hS => law_entry rfl (fun p hp => by
        simp only [List.mem_cons, List.not_mem_nil, or_false] at hp
        rcases hp with rfl | rfl
        · exact hH (c46, P46) (by simp)
        · exact hH (c47, P47) (by simp)) hS (pure_law ns hl hb), fun base hK hN tb => (o_law T tb).ok⟩
end K17
open PySem PySem.W PyProof.Rows
set_option maxHeartbeats 0 in
theorem PySem.Challenge.cw_hitclocks_k17_prices_holds : PySem.Challenge.rw_hitclocks_k17_prices.Holds := by
  w_on; o_law; k_head; (case hw => w_witness2)
  k_fill
  refine DL.walk_G (l := PySem.Challenge.rw_hitclocks_k17_prices) (n := 63) (k := 10) (x := "_law_script") rfl (by decide) rfl ⟨rfl, by decide, by decide⟩ (fun w h Y => PySem.W.km_in_of Y) ?F
  case F =>
    intro w mg fa h Y KX Gm hmg
    refine' K17.all_mk KX Gm hmg ?a8 ?l8 ?h8 ?k8 ?a10 ?l10 ?h10 ?k10 ?a11 ?l11 ?h11 ?k11 ?a12 ?l12 ?h12 ?k12 ?a13 ?l13 ?h13 ?k13 ?a14 ?l14 ?h14 ?k14 ?a15 ?l15 ?h15 ?k15 ?a16 ?l16 ?h16 ?k16 ?a17 ?l17 ?h17 ?k17 ?a18 ?l18 ?h18 ?k18 ?a19 ?l19 ?h19 ?k19 ?a20 ?l20 ?h20 ?k20 ?a21 ?l21 ?h21 ?k21 ?a22 ?l22 ?h22 ?k22 ?a23 ?l23 ?h23 ?k23 ?a25 ?l25 ?h25 ?k25 ?a26 ?l26 ?h26 ?k26 ?a27 ?l27 ?h27 ?k27 ?a28 ?l28 ?h28 ?k28 ?a29 ?l29 ?h29 ?k29 ?a30 ?l30 ?h30 ?k30 ?a31 ?l31 ?h31 ?k31 ?a32 ?l32 ?h32 ?k32 ?a33 ?l33 ?h33 ?k33 ?a34 ?l34 ?h34 ?k34 ?a35 ?l35 ?h35 ?k35 ?a36 ?l36 ?h36 ?k36 ?a37 ?l37 ?h37 ?k37 ?a38 ?l38 ?h38 ?k38 ?a39 ?l39 ?h39 ?k39 ?a40 ?l40 ?h40 ?k40 ?a41 ?l41 ?h41 ?k41 ?a42 ?l42 ?h42 ?k42 ?a43 ?l43 ?h43 ?k43 ?a44 ?l44 ?h44 ?k44 ?a45 ?l45 ?h45 ?k45 ?a46 ?l46 ?h46 ?k46 ?a47 ?l47 ?h47 ?k47 ?a48 ?l48 ?h48 ?k48 ?ea0 ?eq0 ?ek0 ?es0 ?et0 ?eg0 ?eh0 ?ed0 ?ec0 ?em0 ?ea1 ?eq1 ?ek1 ?es1 ?et1 ?eg1 ?eh1 ?ed1 ?ec1 ?em1 ?ea2 ?eq2 ?ek2 ?es2 ?et2 ?eg2 ?eh2 ?ed2 ?ec2 ?em2 ?ea3 ?eq3 ?ek3 ?es3 ?et3 ?eg3 ?eh3 ?ed3 ?ec3 ?em3 ?ea4 ?eq4 ?ek4 ?es4 ?et4 ?eg4 ?eh4 ?ed4 ?ec4 ?em4 ?xn ?xt ?kn_BadPrice ?k0_BadPrice ?k1_BadPrice ?k2_BadPrice ?k3_BadPrice ?k4_BadPrice ?kn_BadNumber ?k0_BadNumber ?k1_BadNumber ?k2_BadNumber ?k3_BadNumber ?k4_BadNumber ?kn_BadPair ?k0_BadPair ?k1_BadPair ?k2_BadPair ?k3_BadPair ?k4_BadPair ?kn_NotAhead ?k0_NotAhead ?k1_NotAhead ?k2_NotAhead ?k3_NotAhead ?k4_NotAhead ?ex0 ?ex1 ?ex2 ?ex3 ?ex4 ?z_abs ?z_bool ?z_gcd ?z_int ?z_isinstance ?z_len ?z_min ?z_range ?z_repr ?z_tuple ?tl46 ?tv46 ?tt46 ?tl47 ?tv47 ?tt47 ?tw46_47
    (case a8 => k_is)
    (case l8 => k_is)
    (case h8 => k_is)
    (case k8 => k_is)
    (case a10 => k_is)
    (case l10 => k_is)
    (case h10 => k_is)
    (case k10 => k_is)
    (case a11 => k_is)
    (case l11 => k_is)
    (case h11 => k_is)
    (case k11 => k_is)
    (case a12 => k_is)
    (case l12 => k_is)
    (case h12 => k_is)
    (case k12 => k_is)
    (case a13 => k_is)
    (case l13 => k_is)
    (case h13 => k_is)
    (case k13 => k_is)
    (case a14 => k_is)
    (case l14 => k_is)
    (case h14 => k_is)
    (case k14 => k_is)
    (case a15 => k_is)
    (case l15 => k_is)
    (case h15 => k_is)
    (case k15 => k_is)
    (case a16 => k_is)
    (case l16 => k_is)
    (case h16 => k_is)
    (case k16 => k_is)
    (case a17 => k_is)
    (case l17 => k_is)
    (case h17 => k_is)
    (case k17 => k_is)
    (case a18 => k_is)
    (case l18 => k_is)
    (case h18 => k_is)
    (case k18 => k_is)
    (case a19 => k_is)
    (case l19 => k_is)
    (case h19 => k_is)
    (case k19 => k_is)
    (case a20 => k_is)
    (case l20 => k_is)
    (case h20 => k_is)
    (case k20 => k_is)
    (case a21 => k_is)
    (case l21 => k_is)
    (case h21 => k_is)
    (case k21 => k_is)
    (case a22 => k_is)
    (case l22 => k_is)
    (case h22 => k_is)
    (case k22 => k_is)
    (case a23 => k_is)
    (case l23 => k_is)
    (case h23 => k_is)
    (case k23 => k_is)
    (case a25 => k_is)
    (case l25 => k_is)
    (case h25 => k_is)
    (case k25 => k_is)
    (case a26 => k_is)
    (case l26 => k_is)
    (case h26 => k_is)
    (case k26 => k_is)
    (case a27 => k_is)
    (case l27 => k_is)
    (case h27 => k_is)
    (case k27 => k_is)
    (case a28 => k_is)
    (case l28 => k_is)
    (case h28 => k_is)
    (case k28 => k_is)
    (case a29 => k_is)
    (case l29 => k_is)
    (case h29 => k_is)
    (case k29 => k_is)
    (case a30 => k_is)
    (case l30 => k_is)
    (case h30 => k_is)
    (case k30 => k_is)
    (case a31 => k_is)
    (case l31 => k_is)
    (case h31 => k_is)
    (case k31 => k_is)
    (case a32 => k_is)
    (case l32 => k_is)
    (case h32 => k_is)
    (case k32 => k_is)
    (case a33 => k_is)
    (case l33 => k_is)
    (case h33 => k_is)
    (case k33 => k_is)
    (case a34 => k_is)
    (case l34 => k_is)
    (case h34 => k_is)
    (case k34 => k_is)
    (case a35 => k_is)
    (case l35 => k_is)
    (case h35 => k_is)
    (case k35 => k_is)
    (case a36 => k_is)
    (case l36 => k_is)
    (case h36 => k_is)
    (case k36 => k_is)
    (case a37 => k_is)
    (case l37 => k_is)
    (case h37 => k_is)
    (case k37 => k_is)
    (case a38 => k_is)
    (case l38 => k_is)
    (case h38 => k_is)
    (case k38 => k_is)
    (case a39 => k_is)
    (case l39 => k_is)
    (case h39 => k_is)
    (case k39 => k_is)
    (case a40 => k_is)
    (case l40 => k_is)
    (case h40 => k_is)
    (case k40 => k_is)
    (case a41 => k_is)
    (case l41 => k_is)
    (case h41 => k_is)
    (case k41 => k_is)
    (case a42 => k_is)
    (case l42 => k_is)
    (case h42 => k_is)
    (case k42 => k_is)
    (case a43 => k_is)
    (case l43 => k_is)
    (case h43 => k_is)
    (case k43 => k_is)
    (case a44 => k_is)
    (case l44 => k_is)
    (case h44 => k_is)
    (case k44 => k_is)
    (case a45 => k_is)
    (case l45 => k_is)
    (case h45 => k_is)
    (case k45 => k_is)
    (case a46 => k_is)
    (case l46 => k_is)
    (case h46 => k_is)
    (case k46 => k_is)
    (case a47 => k_is)
    (case l47 => k_is)
    (case h47 => k_is)
    (case k47 => k_is)
    (case a48 => k_is)
    (case l48 => k_is)
    (case h48 => k_is)
    (case k48 => k_is)
    (case ea0 => k_is)
    (case eq0 => first | k_exc | kernel_rfl | k_is)
    (case ek0 => k_is)
    (case es0 => k_is)
    (case et0 => k_is)
    (case eg0 => k_is)
    (case eh0 => k_is)
    (case ed0 => k_is)
    (case ec0 => k_is)
    (case em0 => k_is)
    (case ea1 => k_is)
    (case eq1 => first | k_exc | kernel_rfl | k_is)
    (case ek1 => k_is)
    (case es1 => k_is)
    (case et1 => k_is)
    (case eg1 => k_is)
    (case eh1 => k_is)
    (case ed1 => k_is)
    (case ec1 => k_is)
    (case em1 => k_is)
    (case ea2 => k_is)
    (case eq2 => first | k_exc | kernel_rfl | k_is)
    (case ek2 => k_is)
    (case es2 => k_is)
    (case et2 => k_is)
    (case eg2 => k_is)
    (case eh2 => k_is)
    (case ed2 => k_is)
    (case ec2 => k_is)
    (case em2 => k_is)
    (case ea3 => k_is)
    (case eq3 => first | k_exc | kernel_rfl | k_is)
    (case ek3 => k_is)
    (case es3 => k_is)
    (case et3 => k_is)
    (case eg3 => k_is)
    (case eh3 => k_is)
    (case ed3 => k_is)
    (case ec3 => k_is)
    (case em3 => k_is)
    (case ea4 => k_is)
    (case eq4 => first | k_exc | kernel_rfl | k_is)
    (case ek4 => k_is)
    (case es4 => k_is)
    (case et4 => k_is)
    (case eg4 => k_is)
    (case eh4 => k_is)
    (case ed4 => k_is)
    (case ec4 => k_is)
    (case em4 => k_is)
    (case xn => k_is)
    (case xt => k_is)
    (case kn_BadPrice => first | k_exc | kernel_rfl | k_is)
    (case k0_BadPrice => first | k_exc | kernel_rfl | k_is)
    (case k1_BadPrice => first | k_exc | kernel_rfl | k_is)
    (case k2_BadPrice => first | k_exc | kernel_rfl | k_is)
    (case k3_BadPrice => first | k_exc | kernel_rfl | k_is)
    (case k4_BadPrice => first | k_exc | kernel_rfl | k_is)
    (case kn_BadNumber => first | k_exc | kernel_rfl | k_is)
    (case k0_BadNumber => first | k_exc | kernel_rfl | k_is)
    (case k1_BadNumber => first | k_exc | kernel_rfl | k_is)
    (case k2_BadNumber => first | k_exc | kernel_rfl | k_is)
    (case k3_BadNumber => first | k_exc | kernel_rfl | k_is)
    (case k4_BadNumber => first | k_exc | kernel_rfl | k_is)
    (case kn_BadPair => first | k_exc | kernel_rfl | k_is)
    (case k0_BadPair => first | k_exc | kernel_rfl | k_is)
    (case k1_BadPair => first | k_exc | kernel_rfl | k_is)
    (case k2_BadPair => first | k_exc | kernel_rfl | k_is)
    (case k3_BadPair => first | k_exc | kernel_rfl | k_is)
    (case k4_BadPair => first | k_exc | kernel_rfl | k_is)
    (case kn_NotAhead => first | k_exc | kernel_rfl | k_is)
    (case k0_NotAhead => first | k_exc | kernel_rfl | k_is)
    (case k1_NotAhead => first | k_exc | kernel_rfl | k_is)
    (case k2_NotAhead => first | k_exc | kernel_rfl | k_is)
    (case k3_NotAhead => first | k_exc | kernel_rfl | k_is)
    (case k4_NotAhead => first | k_exc | kernel_rfl | k_is)
    (case ex0 => first | k_exc | kernel_rfl | k_is)
    (case ex1 => first | k_exc | kernel_rfl | k_is)
    (case ex2 => first | k_exc | kernel_rfl | k_is)
    (case ex3 => first | k_exc | kernel_rfl | k_is)
    (case ex4 => first | k_exc | kernel_rfl | k_is)
    (case z_abs => k_is)
    (case z_bool => k_is)
    (case z_gcd => k_is)
    (case z_int => k_is)
    (case z_isinstance => k_is)
    (case z_len => k_is)
    (case z_min => k_is)
    (case z_range => k_is)
    (case z_repr => k_is)
    (case z_tuple => k_is)
    (case tl46 => k_is)
    (case tv46 => rfl)
    (case tt46 => exact ⟨PySem.W.km_tabs_of Y _ (by simp), by kernel_rfl, by kernel_rfl⟩)
    (case tl47 => k_is)
    (case tv47 => rfl)
    (case tt47 => exact ⟨PySem.W.km_tabs_of Y _ (by simp), by kernel_rfl, by kernel_rfl⟩)
    (case tw46_47 => decide)
