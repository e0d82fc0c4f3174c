import PyProof.Rows.All
import Wide.All
import OpenK.AllK
import Wide.FinOn
import HandS.ForMost
import HandS.Exc
import HandS.WordsExc
import HandS.IsInst
import HandS.Flow
import HandS.Zip
import HandS.Walk
import HandS.Wide
import HandS.SlotsOwn
import HandS.Lambda
import HandS.EndTab
import HandS.Nested
import HandS.TupAny
import HandS.TupMul
import HandS.TupLe
import HandS.Style
import HandS.Set
import HandS.Strs
import HandS.Slots
import HandS.Conv
import KE.SortKeyHeap
import KE.SortData
import KE.KLam
import KE.KSortTup
import KE.KSortKey
import HandS.FromBytesMap
import HandS.ExcValue
import KE.KNestM
import PySem.Challenge.RW_saveclash_k04_seen_without_alone
set_option Elab.async false
set_option linter.all false
set_option maxRecDepth 100000
set_option maxHeartbeats 2000000
namespace MM
open PySem PySem.Spec PyProof.Rows L2
/-- the tables of code objects that lambdas fill, with the name of what stands in them -/
class Tabl where
  T : List (Addr × Str)
  nd : (T.map (·.1)).Nodup
def TbOk [TB : Tabl] (H : Hp) : Prop := LamX.Tabs TB.T H
variable [TB : Tabl]
theorem TbOk.ext {H H' : Hp} (t : TbOk H) (e : ∀ b o, H b = some o → H' b = some o) : TbOk H' := LamX.Tabs.ext t e
theorem TbOk.laid {H : Hp} {p : Addr} {o : HO} (t : TbOk H) (hp : H p = none) : TbOk (upd H p o) := t.ext fun b u e => by rw [upd_ne (ne_of_none e hp)]; exact e
theorem TbOk.put {H H' : Hp} {a : Addr} {u : HO} (t : TbOk H) (h : H a = some u) (n1 : ∀ ps, u ≠ .tbl ps) (n2 : ∀ c q, u ≠ LamX.CodeO c q) (e : ∀ b o, b ≠ a → H b = some o → (∀ y, o ≠ .own y) → H' b = some o) : TbOk H' := fun p hp => by
  obtain ⟨ps, h1, h2, h3⟩ := t p hp
  refine ⟨ps, e _ _ (fun z => by rw [z, h] at h1; exact n1 _ (Option.some.inj h1)) h1 (fun _ => by simp), h2, fun pos cv hc => ?_⟩
  obtain ⟨c, e1, e2⟩ := h3 pos cv hc
  exact ⟨c, e1, e _ _ (fun z => by rw [z, h] at e2; exact n2 _ _ (Option.some.inj e2)) e2 (fun _ => by unfold LamX.CodeO; simp)⟩
/-- data: frozen containers are values, loc n is the n-th cell of the store -/
inductive D where
  | non | unset
  | bl (b : Bool)
  | int (i : Int)
  | str (x : Str)
  | tup (xs : List D)
  | lst (xs : List D)
  | scr (xs : List D)
  | dic (ks vs : List D)
  | obj (c : Str) (fs : List D)
  | loc (n : Nat)
abbrev Store := List D
/-- the addresses of the cells, and the addresses to be avoided -/
structure Wd where
  r : List Addr
  x : List Addr
def Fz (W : Wd) (a : Addr) : Prop := a ∉ W.r ∧ a ∉ W.x
def Wd.push (W : Wd) (p : Addr) : Wd := ⟨W.r, p :: W.x⟩
def Wd.own (W : Wd) (p : Addr) : Wd := ⟨W.r ++ [p], W.x⟩
def kD : Key → D
  | .inl i => .int i
  | .inr x => .str x
def o2v : Option V → V
  | some v => v
  | none => .ty "unset"
/-- the script: a list that nobody writes -/
def Scr (K : PySem.W.Frag) (H : Hp) (a : Addr) (vs : List V) : Prop := (∃ o, H a = some (.frz o (.lst vs))) ∨
  ∃ (o : Obj) (its : Array Value) (n : Nat), K.lookup a = some o ∧ o.cls = .type "list" ∧ o.dict = none ∧ o.data = .seq its n ∧ its.size ≤ sizeLine ∧ Vals vs its.toList
theorem Scr.sq {K : PySem.W.Frag} {H : Hp} {a : Addr} {vs : List V} (h : Scr K H a vs) : SqL K H a vs := h.imp (fun h => .inr h) id
mutual
inductive Rep (K : PySem.W.Frag) (mg : Str → Option Value) (H : Hp) (W : Wd) : V → D → Prop
  | non : Rep K mg H W .non .non
  | unset : Rep K mg H W (.ty "unset") .unset
  | bl (b : Bool) : Rep K mg H W (.bl b) (.bl b)
  | int (i : Int) : Rep K mg H W (.int i) (.int i)
  | str (x : Str) : Rep K mg H W (.str x) (.str x)
  | tup {a : Addr} {vs : List V} {xs : List D} (h : SqT K H a vs) (r : Reps K mg H W vs xs) : Rep K mg H W (.ref a) (.tup xs)
  | lst {a : Addr} {vs : List V} {xs : List D} (f : Fz W a) (h : H a = some (.lst vs)) (r : Reps K mg H W vs xs) : Rep K mg H W (.ref a) (.lst xs)
  | scr {a : Addr} {vs : List V} {xs : List D} (h : Scr K H a vs) (r : Reps K mg H W vs xs) : Rep K mg H W (.ref a) (.scr xs)
  | dicK {a : Addr} {kvs : List (Key × V)} {ks ds : List D} (f : Fz W a) (h : H a = some (.dK kvs)) (e : ks = kvs.map fun p => kD p.1) (r : Reps K mg H W (kvs.map (·.2)) ds) : Rep K mg H W (.ref a) (.dic ks ds)
  | dicT {a : Addr} {kvs : List (List Key × V)} {ks ds : List D} (f : Fz W a) (h : H a = some (.dT kvs)) (e : ks = .unset :: kvs.map fun p => .tup (p.1.map kD)) (r : Reps K mg H W (kvs.map (·.2)) ds) : Rep K mg H W (.ref a) (.dic ks ds)
  | obj {a C dx : Addr} {os : List (Option V)} {c : Str} {fs : List D} (f : Fz W a) (f2 : Fz W dx) (hc : mg c = some (.ref C)) (h : H a = some (SlX.SlO a C dx os)) (h2 : H dx = some (.xd [])) (r : Reps K mg H W (os.map o2v) fs) : Rep K mg H W (.ref a) (.obj c fs)
  | obj0 {a C dx : Addr} {c : Str} (f : Fz W a) (hc : mg c = some (.ref C)) (h : H a = some (.ins C dx [])) : Rep K mg H W (.ref a) (.obj c [])
  | loc {n : Nat} {a : Addr} (h : W.r[n]? = some a) : Rep K mg H W (.ref a) (.loc n)
inductive Reps (K : PySem.W.Frag) (mg : Str → Option Value) (H : Hp) (W : Wd) : List V → List D → Prop
  | nil : Reps K mg H W [] []
  | cons {v : V} {vs : List V} {d : D} {ds : List D} (h : Rep K mg H W v d) (t : Reps K mg H W vs ds) : Reps K mg H W (v :: vs) (d :: ds)
end
structure Step (W : Wd) (H : Hp) (W' : Wd) (H' : Hp) : Prop where
  x : W'.x = W.x
  r : ∃ m, W'.r = W.r ++ m ∧ ∀ a ∈ m, H a = none
  th : ∀ b o, H b = some o → ∃ o', H' b = some o'
  fr : ∀ b o, H b = some o → b ∉ W.r → (∀ ps, o ≠ .tbl ps) → (∀ y, o = .own y → y ∉ W.r ∧ ∃ u, H y = some u) → H' b = some o
  tups : ∀ b vs, H b = some (.tup vs) → H' b = some (.tup vs)
  frzs : ∀ b o u, H b = some (.frz o u) → H' b = some (.frz o u)
section
variable {K : PySem.W.Frag} {mg : Str → Option Value} {H H' H'' : Hp} {W W' W'' : Wd}
theorem Step.refl : Step W H W H := ⟨rfl, ⟨[], by simp, by simp⟩, fun _ o h => ⟨o, h⟩, fun _ _ h _ _ _ => h, fun _ _ h => h, fun _ _ _ h => h⟩
theorem Step.sub (s : Step W H W' H') {a : Addr} (h : a ∈ W.r) : a ∈ W'.r := by
  obtain ⟨m, e, _⟩ := s.r
  rw [e]; exact List.mem_append_left _ h
theorem Step.new (s : Step W H W' H') {a : Addr} (h : a ∈ W'.r) : a ∈ W.r ∨ H a = none := by
  obtain ⟨m, e, hm⟩ := s.r
  rw [e] at h
  exact (List.mem_append.mp h).imp id (hm a)
theorem Step.free (s : Step W H W' H') {a : Addr} (h : H' a = none) : H a = none := by
  cases e : H a with
  | none => rfl
  | some o => obtain ⟨o', q⟩ := s.th a o e; rw [h] at q; cases q
theorem Step.trans (s : Step W H W' H') (t : Step W' H' W'' H'') : Step W H W'' H'' where
  x := t.x.trans s.x
  r := by
    obtain ⟨m, e, hm⟩ := s.r
    obtain ⟨m', e', hm'⟩ := t.r
    refine ⟨m ++ m', by rw [e', e, List.append_assoc], fun a ha => ?_⟩
    rcases List.mem_append.mp ha with h | h
    · exact hm a h
    · exact s.free (hm' a h)
  th := fun b o h => let ⟨o', h'⟩ := s.th b o h; t.th b o' h'
  fr := fun b o h n nt no => by
    have key : ∀ c u, H c = some u → c ∉ W.r → c ∉ W'.r := fun c u h n h' => (s.new h').elim n fun z => by rw [z] at h; cases h
    refine t.fr b o (s.fr b o h n nt no) (key b o h n) nt fun y e => ?_
    obtain ⟨ny, u, hu⟩ := no y e
    exact ⟨key y u hu ny, s.th y u hu⟩
  tups := fun b vs h => t.tups b vs (s.tups b vs h)
  frzs := fun b o u h => t.frzs b o u (s.frzs b o u h)
theorem Step.fz (s : Step W H W' H') {a : Addr} {o : HO} (h : H a = some o) (f : Fz W a) : Fz W' a :=
  ⟨fun z => (s.new z).elim f.1 (fun q => by rw [q] at h; cases h), fun z => f.2 (s.x ▸ z)⟩
theorem Step.get (s : Step W H W' H') {n : Nat} {a : Addr} (h : W.r[n]? = some a) : W'.r[n]? = some a := by
  obtain ⟨m, e, _⟩ := s.r
  rw [e, List.getElem?_append_left (List.getElem?_eq_some_iff.mp h).1]; exact h
theorem Step.at (s : Step W H W' H') {a : Addr} {o : HO} (h : H a = some o) (f : Fz W a) (no : (∀ y, o ≠ .own y) ∧ ∀ ps, o ≠ .tbl ps) : H' a = some o := s.fr a o h f.1 no.2 fun y e => (no.1 y e).elim
theorem Step.sqT (s : Step W H W' H') {a : Addr} {vs : List V} (h : SqT K H a vs) : SqT K H' a vs := by
  rcases h with (h | ⟨o, h⟩) | h
  · exact .inl (.inl (s.tups _ _ h))
  · exact .inl (.inr ⟨o, s.frzs _ _ _ h⟩)
  · exact .inr h
theorem slO_tbl {a C dx : Addr} {vs : List (Option V)} {ps : Array Value} : SlX.SlO a C dx vs ≠ .tbl ps := fun z => by
  unfold SlX.SlO at z; cases z
theorem slO_own {a C dx y : Addr} {vs : List (Option V)} : SlX.SlO a C dx vs ≠ .own y := fun z => by
  unfold SlX.SlO at z; cases z
mutual
theorem Rep.mono (s : Step W H W' H') : ∀ {v : V} {d : D}, Rep K mg H W v d → Rep K mg H' W' v d
  | _, _, .non => .non
  | _, _, .unset => .unset
  | _, _, .bl b => .bl b
  | _, _, .int i => .int i
  | _, _, .str x => .str x
  | _, _, .tup h r => .tup (s.sqT h) (Reps.mono s r)
  | _, _, .lst f h r => .lst (s.fz h f) (s.at h f ⟨fun _ => by simp, fun _ => by simp⟩) (Reps.mono s r)
  | _, _, .scr h r => .scr (h.imp (fun ⟨o, e⟩ => ⟨o, s.frzs _ _ _ e⟩) id) (Reps.mono s r)
  | _, _, .dicK f h e r => .dicK (s.fz h f) (s.at h f ⟨fun _ => by simp, fun _ => by simp⟩) e (Reps.mono s r)
  | _, _, .dicT f h e r => .dicT (s.fz h f) (s.at h f ⟨fun _ => by simp, fun _ => by simp⟩) e (Reps.mono s r)
  | _, _, .obj f f2 hc h h2 r => .obj (s.fz h f) (s.fz h2 f2) hc (s.at h f ⟨fun _ => slO_own, fun _ => slO_tbl⟩) (s.at h2 f2 ⟨fun _ => by simp, fun _ => by simp⟩) (Reps.mono s r)
  | _, _, .obj0 f hc h => .obj0 (s.fz h f) hc (s.at h f ⟨fun _ => by simp, fun _ => by simp⟩)
  | _, _, .loc h => .loc (s.get h)
theorem Reps.mono (s : Step W H W' H') : ∀ {vs : List V} {ds : List D}, Reps K mg H W vs ds → Reps K mg H' W' vs ds
  | _, _, .nil => .nil
  | _, _, .cons h t => .cons (Rep.mono s h) (Reps.mono s t)
end
/-- fewer addresses to avoid -/
def Less (W W' : Wd) : Prop := (∀ a, Fz W a → Fz W' a) ∧ ∀ (n : Nat) a, W.r[n]? = some a → W'.r[n]? = some a
mutual
theorem Rep.less (l : Less W W') : ∀ {v : V} {d : D}, Rep K mg H W v d → Rep K mg H W' v d
  | _, _, .non => .non
  | _, _, .unset => .unset
  | _, _, .bl b => .bl b
  | _, _, .int i => .int i
  | _, _, .str x => .str x
  | _, _, .tup h r => .tup h (Reps.less l r)
  | _, _, .lst f h r => .lst (l.1 _ f) h (Reps.less l r)
  | _, _, .scr h r => .scr h (Reps.less l r)
  | _, _, .dicK f h e r => .dicK (l.1 _ f) h e (Reps.less l r)
  | _, _, .dicT f h e r => .dicT (l.1 _ f) h e (Reps.less l r)
  | _, _, .obj f f2 hc h h2 r => .obj (l.1 _ f) (l.1 _ f2) hc h h2 (Reps.less l r)
  | _, _, .obj0 f hc h => .obj0 (l.1 _ f) hc h
  | _, _, .loc h => .loc (l.2 _ _ h)
theorem Reps.less (l : Less W W') : ∀ {vs : List V} {ds : List D}, Reps K mg H W vs ds → Reps K mg H W' vs ds
  | _, _, .nil => .nil
  | _, _, .cons h t => .cons (Rep.less l h) (Reps.less l t)
end
theorem Less.pop {p : Addr} : Less (W.push p) W := ⟨fun _ f => ⟨f.1, fun z => f.2 (List.mem_cons_of_mem _ z)⟩, fun _ _ h => h⟩
theorem Less.own {p : Addr} : Less (W.push p) (W.own p) := by
  refine ⟨fun a f => ⟨fun z => ?_, fun z => f.2 (List.mem_cons_of_mem _ z)⟩, fun n a h => ?_⟩
  · rcases List.mem_append.mp z with z | z
    · exact f.1 z
    · exact f.2 (List.mem_cons.mpr (.inl (List.mem_singleton.mp z)))
  · have h : W.r[n]? = some a := h
    show (W.r ++ [p])[n]? = some a
    rw [List.getElem?_append_left (List.getElem?_eq_some_iff.mp h).1]; exact h
mutual
/-- an address that is not tracked may be avoided, too -/
theorem Rep.push {p : Addr} (hp : H p = none) : ∀ {v : V} {d : D}, Rep K mg H W v d → Rep K mg H (W.push p) v d
  | _, _, .non => .non
  | _, _, .unset => .unset
  | _, _, .bl b => .bl b
  | _, _, .int i => .int i
  | _, _, .str x => .str x
  | _, _, .tup h r => .tup h (Reps.push hp r)
  | _, _, .lst f h r => .lst ⟨f.1, fun z => (List.mem_cons.mp z).elim (fun q => by subst q; rw [hp] at h; cases h) f.2⟩ h (Reps.push hp r)
  | _, _, .scr h r => .scr h (Reps.push hp r)
  | _, _, .dicK f h e r => .dicK ⟨f.1, fun z => (List.mem_cons.mp z).elim (fun q => by subst q; rw [hp] at h; cases h) f.2⟩ h e (Reps.push hp r)
  | _, _, .dicT f h e r => .dicT ⟨f.1, fun z => (List.mem_cons.mp z).elim (fun q => by subst q; rw [hp] at h; cases h) f.2⟩ h e (Reps.push hp r)
  | _, _, .obj f f2 hc h h2 r => .obj ⟨f.1, fun z => (List.mem_cons.mp z).elim (fun q => by subst q; rw [hp] at h; cases h) f.2⟩ ⟨f2.1, fun z => (List.mem_cons.mp z).elim (fun q => by subst q; rw [hp] at h2; cases h2) f2.2⟩ hc h h2 (Reps.push hp r)
  | _, _, .obj0 f hc h => .obj0 ⟨f.1, fun z => (List.mem_cons.mp z).elim (fun q => by subst q; rw [hp] at h; cases h) f.2⟩ hc h
  | _, _, .loc h => .loc h
theorem Reps.push {p : Addr} (hp : H p = none) : ∀ {vs : List V} {ds : List D}, Reps K mg H W vs ds → Reps K mg H (W.push p) vs ds
  | _, _, .nil => .nil
  | _, _, .cons h t => .cons (Rep.push hp h) (Reps.push hp t)
end
theorem Reps.length : ∀ {vs : List V} {ds : List D}, Reps K mg H W vs ds → vs.length = ds.length
  | _, _, .nil => rfl
  | _, _, .cons _ t => by simp [Reps.length t]
theorem Reps.get : ∀ {vs : List V} {ds : List D} {i : Nat} {d : D}, Reps K mg H W vs ds → ds[i]? = some d → ∃ v, vs[i]? = some v ∧ Rep K mg H W v d
  | _, _, _, _, .nil, e => by simp at e
  | _, _, 0, _, .cons h _, e => by simp at e; subst e; exact ⟨_, rfl, h⟩
  | _, _, i + 1, d, .cons _ t, e => by
    obtain ⟨v, h1, h2⟩ := Reps.get (i := i) (d := d) t (by simpa using e)
    exact ⟨v, by simpa using h1, h2⟩
theorem Reps.getV : ∀ {vs : List V} {ds : List D} {i : Nat} {v : V}, Reps K mg H W vs ds → vs[i]? = some v → ∃ d, ds[i]? = some d ∧ Rep K mg H W v d
  | _, _, _, _, .nil, e => by simp at e
  | _, _, 0, _, .cons h _, e => by simp at e; subst e; exact ⟨_, rfl, h⟩
  | _, _, i + 1, d, .cons _ t, e => by
    obtain ⟨v, h1, h2⟩ := Reps.getV (i := i) (v := d) t (by simpa using e)
    exact ⟨v, by simpa using h1, h2⟩
theorem Reps.append : ∀ {vs us : List V} {ds es : List D}, Reps K mg H W vs ds → Reps K mg H W us es → Reps K mg H W (vs ++ us) (ds ++ es)
  | _, _, _, _, .nil, s => s
  | _, _, _, _, .cons h t, s => .cons h (Reps.append t s)
theorem Reps.take : ∀ {vs : List V} {ds : List D} (n : Nat), Reps K mg H W vs ds → Reps K mg H W (vs.take n) (ds.take n)
  | _, _, 0, _ => by simp; exact .nil
  | _, _, _ + 1, .nil => by simp; exact .nil
  | _, _, n + 1, .cons h t => by simp; exact .cons h (Reps.take n t)
theorem Reps.drop : ∀ {vs : List V} {ds : List D} (n : Nat), Reps K mg H W vs ds → Reps K mg H W (vs.drop n) (ds.drop n)
  | _, _, 0, r => by simpa using r
  | _, _, _ + 1, .nil => by simp; exact .nil
  | _, _, n + 1, .cons _ t => by simp; exact Reps.drop n t
theorem Reps.set {v : V} {d : D} (r : Rep K mg H W v d) : ∀ {vs : List V} {ds : List D} (i : Nat), Reps K mg H W vs ds → Reps K mg H W (vs.set i v) (ds.set i d)
  | _, _, _, .nil => .nil
  | _, _, 0, .cons _ t => .cons r t
  | _, _, i + 1, .cons h t => .cons h (Reps.set r i t)
theorem Reps.rev : ∀ {vs : List V} {ds : List D}, Reps K mg H W vs ds → Reps K mg H W vs.reverse ds.reverse
  | _, _, .nil => by simp; exact .nil
  | _, _, .cons h t => by simp only [List.reverse_cons]; exact (Reps.rev t).append (.cons h .nil)
theorem Reps.one {v : V} {ds : List D} (r : Reps K mg H W [v] ds) : ∃ d, ds = [d] ∧ Rep K mg H W v d := by
  cases r with
  | cons h t => cases t; exact ⟨_, rfl, h⟩
/-- what stands in a cell -/
inductive Holds (K : PySem.W.Frag) (mg : Str → Option Value) (H : Hp) (W : Wd) (a : Addr) : D → Prop
  | lst {vs : List V} {xs : List D} (h : H a = some (.lst vs)) (r : Reps K mg H W vs xs) : Holds K mg H W a (.lst xs)
  | dicK {kvs : List (Key × V)} {ks ds : List D} (h : H a = some (.dK kvs)) (e : ks = kvs.map fun p => kD p.1) (r : Reps K mg H W (kvs.map (·.2)) ds) : Holds K mg H W a (.dic ks ds)
  | dicT {kvs : List (List Key × V)} {ks ds : List D} (h : H a = some (.dT kvs)) (e : ks = .unset :: kvs.map fun p => .tup (p.1.map kD)) (r : Reps K mg H W (kvs.map (·.2)) ds) : Holds K mg H W a (.dic ks ds)
  | obj {C dx : Addr} {os : List (Option V)} {c : Str} {fs : List D} (f2 : Fz W dx) (hc : mg c = some (.ref C)) (ne : dx ≠ a) (h : H a = some (SlX.SlO a C dx os)) (h2 : H dx = some (.xd [])) (r : Reps K mg H W (os.map o2v) fs) : Holds K mg H W a (.obj c fs)
  | obj0 {C dx : Addr} {c : Str} (hc : mg c = some (.ref C)) (ne : dx ≠ a) (hw : dx ∉ W.x) (h : H a = some (.ins C dx [])) (h2 : H dx = some (.own a)) : Holds K mg H W a (.obj c [])
structure StoreOk (K : PySem.W.Frag) (mg : Str → Option Value) (H : Hp) (W : Wd) (S : Store) : Prop where
  len : S.length = W.r.length
  nd : W.r.Nodup
  ap : ∀ a ∈ W.r, a ∉ W.x
  xt : ∀ a ∈ W.x, ∃ o, H a = some o
  at_ : ∀ (n : Nat) a d, W.r[n]? = some a → S[n]? = some d → Holds K mg H W a d
  tb : TbOk H
theorem Holds.tr {a : Addr} {d : D} (h : Holds K mg H W a d) : ∃ o, H a = some o := by
  cases h with
  | lst h r => exact ⟨_, h⟩
  | dicK h e r => exact ⟨_, h⟩
  | dicT h e r => exact ⟨_, h⟩
  | obj f2 hc ne h h2 r => exact ⟨_, h⟩
  | obj0 hc ne hw h h2 => exact ⟨_, h⟩
theorem StoreOk.tr {S : Store} (s : StoreOk K mg H W S) {a : Addr} (h : a ∈ W.r) : ∃ o, H a = some o := by
  obtain ⟨n, hn, e⟩ := List.mem_iff_getElem.mp h
  have h1 : W.r[n]? = some a := by rw [List.getElem?_eq_getElem hn, e]
  have h2 : n < S.length := by rw [s.len]; exact hn
  exact (s.at_ n a _ h1 (List.getElem?_eq_getElem h2)).tr
theorem StoreOk.nw {S : Store} (s : StoreOk K mg H W S) {p : Addr} (h : H p = none) : p ∉ W.r := fun z => by
  obtain ⟨o, q⟩ := s.tr z
  rw [h] at q; cases q
theorem StoreOk.cell {S : Store} (s : StoreOk K mg H W S) {n : Nat} {d : D} (h : S[n]? = some d) : ∃ a, W.r[n]? = some a ∧ Holds K mg H W a d := by
  have hn : n < W.r.length := by rw [← s.len]; exact (List.getElem?_eq_some_iff.mp h).1
  exact ⟨W.r[n], List.getElem?_eq_getElem hn, s.at_ n _ d (List.getElem?_eq_getElem hn) h⟩
theorem Holds.push {p a : Addr} {d : D} (hp : H p = none) (h : Holds K mg H W a d) : Holds K mg H (W.push p) a d := by
  have ne : ∀ b o, H b = some o → b ≠ p := fun b o e z => by subst z; rw [hp] at e; cases e
  cases h with
  | lst h r => exact .lst h (r.push hp)
  | dicK h e r => exact .dicK h e (r.push hp)
  | dicT h e r => exact .dicT h e (r.push hp)
  | obj f2 hc n h h2 r => exact .obj ⟨f2.1, fun z => (List.mem_cons.mp z).elim (ne _ _ h2) f2.2⟩ hc n h h2 (r.push hp)
  | obj0 hc n hw h h2 => exact .obj0 hc n (fun z => (List.mem_cons.mp z).elim (ne _ _ h2) hw) h h2
theorem Holds.less {W' : Wd} {a : Addr} {d : D} (l : Less W W') (lx : ∀ b, b ∈ W'.x → b ∈ W.x) (h : Holds K mg H W a d) : Holds K mg H W' a d := by
  cases h with
  | lst h r => exact .lst h (r.less l)
  | dicK h e r => exact .dicK h e (r.less l)
  | dicT h e r => exact .dicT h e (r.less l)
  | obj f2 hc n h h2 r => exact .obj (l.1 _ f2) hc n h h2 (r.less l)
  | obj0 hc n hw h h2 => exact .obj0 hc n (fun z => hw (lx _ z)) h h2
theorem StoreOk.pop {S : Store} {p : Addr} (s : StoreOk K mg H (W.push p) S) : StoreOk K mg H W S :=
  ⟨s.len, s.nd, fun a ha z => s.ap a ha (List.mem_cons_of_mem _ z), fun a ha => s.xt a (List.mem_cons_of_mem _ ha), fun n a d h1 h2 => (s.at_ n a d h1 h2).less Less.pop fun _ z => List.mem_cons_of_mem _ z, s.tb⟩
/-- a frozen thing becomes a cell -/
theorem StoreOk.own {S : Store} {p : Addr} {d : D} (s : StoreOk K mg H (W.push p) S) (np : p ∉ W.r) (nx : p ∉ W.x) (h : Holds K mg H (W.push p) p d) : StoreOk K mg H (W.own p) (S ++ [d]) := by
  have sl : S.length = W.r.length := s.len
  refine ⟨by simp [Wd.own, sl], ?_, fun a ha => ?_, fun a ha => s.xt a (List.mem_cons_of_mem _ ha), fun n a e h1 h2 => ?_, s.tb⟩
  · show (W.r ++ [p]).Nodup
    rw [List.nodup_append]
    exact ⟨s.nd, by simp, fun a ha b hb => by rw [List.mem_singleton.mp hb]; exact fun z => np (z ▸ ha)⟩
  · rcases List.mem_append.mp ha with ha | ha
    · exact fun z => s.ap a ha (List.mem_cons_of_mem _ z)
    · rw [List.mem_singleton.mp ha]; exact nx
  · have h1 : (W.r ++ [p])[n]? = some a := h1
    by_cases hn : n < W.r.length
    · rw [List.getElem?_append_left hn] at h1
      rw [List.getElem?_append_left (by omega)] at h2
      exact (s.at_ n a e h1 h2).less Less.own fun _ z => List.mem_cons_of_mem _ z
    · have hn' : n = W.r.length := by
        have := (List.getElem?_eq_some_iff.mp h1).1
        simp at this; omega
      subst hn'
      simp at h1
      rw [← sl] at h2
      simp at h2
      subst h1 h2
      exact h.less Less.own fun _ z => List.mem_cons_of_mem _ z
/-- moving on, the cells untouched -/
theorem Holds.keep {a : Addr} {d : D} (st : Step W H W' H') (h : Holds K mg H W a d) (ha : ∀ o, H a = some o → H' a = some o) (hd : ∀ dx, H dx = some (.own a) → H' dx = some (.own a)) : Holds K mg H' W' a d := by
  cases h with
  | lst h r => exact .lst (ha _ h) (r.mono st)
  | dicK h e r => exact .dicK (ha _ h) e (r.mono st)
  | dicT h e r => exact .dicT (ha _ h) e (r.mono st)
  | obj f2 hc n h h2 r => exact .obj (st.fz h2 f2) hc n (ha _ h) (st.at h2 f2 ⟨fun _ => by simp, fun _ => by simp⟩) (r.mono st)
  | obj0 hc n hw h h2 => exact .obj0 hc n (fun z => hw (st.x ▸ z)) (ha _ h) (hd _ h2)
theorem Step.laid {p : Addr} {o : HO} (hp : H p = none) : Step W H W (upd H p o) :=
  ⟨rfl, ⟨[], by simp, by simp⟩, fun b u h => ⟨u, by rw [upd_ne (ne_of_none h hp)]; exact h⟩, fun b u h _ _ _ => by rw [upd_ne (ne_of_none h hp)]; exact h, fun b u h => by rw [upd_ne (ne_of_none h hp)]; exact h, fun b u v h => by rw [upd_ne (ne_of_none h hp)]; exact h⟩
/-- a new thing is laid: the store stands -/
theorem StoreOk.laid {S : Store} {p : Addr} {o : HO} (s : StoreOk K mg H W S) (hp : H p = none) : StoreOk K mg (upd H p o) W S :=
  ⟨s.len, s.nd, s.ap, fun a ha => (Step.laid (W := W) hp).th a _ (s.xt a ha).choose_spec, fun n a d h1 h2 => (s.at_ n a d h1 h2).keep (Step.laid hp) (fun u e => by rw [upd_ne (ne_of_none e hp)]; exact e) (fun dx e => by rw [upd_ne (ne_of_none e hp)]; exact e), s.tb.laid hp⟩
/-- .. and is to be avoided -/
theorem StoreOk.laidPush {S : Store} {p : Addr} {o : HO} (s : StoreOk K mg H W S) (hp : H p = none) : StoreOk K mg (upd H p o) (W.push p) S :=
  ⟨s.len, s.nd, fun a ha z => (List.mem_cons.mp z).elim (fun e => s.nw hp (e ▸ ha)) (s.ap a ha), fun a ha => (List.mem_cons.mp ha).elim (fun e => ⟨o, by rw [e]; exact upd_same⟩) fun z => (Step.laid (W := W) hp).th a _ (s.xt a z).choose_spec,
    fun n a d h1 h2 => ((s.at_ n a d h1 h2).push hp).keep (Step.laid hp) (fun u e => by rw [upd_ne (ne_of_none e hp)]; exact e) (fun dx e => by rw [upd_ne (ne_of_none e hp)]; exact e), s.tb.laid hp⟩
theorem StoreOk.nx {S : Store} (s : StoreOk K mg H W S) {p : Addr} (h : H p = none) : p ∉ W.x := fun z => by
  obtain ⟨o, q⟩ := s.xt p z
  rw [h] at q; cases q
end
end MM
set_option maxRecDepth 100000
set_option maxHeartbeats 2000000
namespace MM
open PySem PySem.Spec PyProof.Rows L2
variable [TB : Tabl]
/-! ### mirrors -/
abbrev MEnv := List (Option D)
abbrev M := MEnv → Store → Option (D × Store)
abbrev MA := MEnv → Store → Option (List D × Store)
abbrev MT := MEnv → Store → Option (Bool × Store)
def deref (S : Store) : D → Option D
  | .loc n => S[n]?
  | d => some d
structure EnvOk (K : PySem.W.Frag) (mg : Str → Option Value) (H : Hp) (W : Wd) (σ : L2.St) (e : MEnv) : Prop where
  len : e.length = σ.length
  at_ : ∀ (i : Nat) d, e[i]? = some (some d) → ∃ v, σ[i]? = some (some v) ∧ Rep K mg H W v d
section
variable {K : PySem.W.Frag} {mg : Str → Option Value} {H H' : Hp} {W W' : Wd} {σ : L2.St} {e : MEnv} {S : Store}
theorem EnvOk.mono (s : Step W H W' H') (h : EnvOk K mg H W σ e) : EnvOk K mg H' W' σ e :=
  ⟨h.len, fun i d q => let ⟨v, a, b⟩ := h.at_ i d q; ⟨v, a, b.mono s⟩⟩
theorem EnvOk.set (h : EnvOk K mg H W σ e) {v : V} {d : D} (r : Rep K mg H W v d) (i : Nat) : EnvOk K mg H W (σ.set i (some v)) (e.set i (some d)) := by
  refine ⟨by simp [h.len], fun j c q => ?_⟩
  rw [List.getElem?_set] at q
  rw [List.getElem?_set]
  split at q
  · rename_i e1
    rw [if_pos e1]
    split at q
    · rename_i h1
      rw [if_pos (by rw [← h.len]; exact h1)]
      have q : d = c := by simpa using q
      subst q
      exact ⟨v, rfl, r⟩
    · cases q
  · rename_i e1
    rw [if_neg e1]
    exact h.at_ j c q
theorem Rep.lstR {v : V} {d : D} {xs : List D} (r : Rep K mg H W v d) (s : StoreOk K mg H W S) (h : deref S d = some (.lst xs)) : ∃ a vs, v = .ref a ∧ H a = some (.lst vs) ∧ Reps K mg H W vs xs := by
  cases r with
  | lst f h1 r1 => cases h; exact ⟨_, _, rfl, h1, r1⟩
  | loc h1 =>
    have h : S[_]? = some (D.lst xs) := h
    cases s.at_ _ _ _ h1 h with
    | lst h2 r2 => exact ⟨_, _, rfl, h2, r2⟩
  | _ => cases h
end
def tE (K : PySem.W.Frag) (mg : Str → Option Value) (m : M) : TE := fun σ H Q => ∃ W e S d S', EnvOk K mg H W σ e ∧ StoreOk K mg H W S ∧ m e S = some (d, S') ∧
  ∀ v W' H', Step W H W' H' → Rep K mg H' W' v d → StoreOk K mg H' W' S' → Q v H'
def tAs (K : PySem.W.Frag) (mg : Str → Option Value) (m : MA) : TA := fun σ H Q => ∃ W e S d S', EnvOk K mg H W σ e ∧ StoreOk K mg H W S ∧ m e S = some (d, S') ∧
  ∀ v W' H', Step W H W' H' → Reps K mg H' W' v d → StoreOk K mg H' W' S' → Q v H'
def tTs (K : PySem.W.Frag) (mg : Str → Option Value) (m : MT) : TT := fun σ H Q => ∃ W e S d S', EnvOk K mg H W σ e ∧ StoreOk K mg H W S ∧ m e S = some (d, S') ∧
  ∀ W' H', Step W H W' H' → StoreOk K mg H' W' S' → Q d H'
/-- a new list or dict, still in hand -/
def tCr (K : PySem.W.Frag) (mg : Str → Option Value) (m : M) : TE := fun σ H Q => ∃ W e S d S', EnvOk K mg H W σ e ∧ StoreOk K mg H W S ∧ m e S = some (d, S') ∧
  ∀ p W' H', Step W H W' H' → H p = none → p ∉ W'.r → p ∉ W'.x → Holds K mg H' (W'.push p) p d → StoreOk K mg H' (W'.push p) S' → Q (.ref p) H'
abbrev SE (X : Cx) (e : Expr) (m : M) : Prop := PE X e (tE X.K X.mg m)
abbrev SC (X : Cx) (e : Expr) (m : M) : Prop := PE X e (tCr X.K X.mg m)
abbrev SA (X : Cx) (es : List Expr) (m : MA) : Prop := PA X es (tAs X.K X.mg m)
abbrev ST (X : Cx) (e : Expr) (m : MT) : Prop := PT X e (tTs X.K X.mg m)
abbrev SW (X : Cx) (e : Expr) (m : MT) : Prop := PW X e (tTs X.K X.mg m)
section
variable {X : Cx} {e a b : Expr} {es : List Expr} {pos : Pos}
theorem pe_imp {t t' : TE} (h : PE X e t) (i : ∀ σ H Q, t' σ H Q → t σ H Q) : PE X e t' := ⟨fun pins s σ H Q I q => h.run pins s σ H Q I (i _ _ _ q)⟩
theorem pt_imp {t t' : TT} (h : PT X e t) (i : ∀ σ H Q, t' σ H Q → t σ H Q) : PT X e t' := ⟨fun pins s σ H Q I q => h.run pins s σ H Q I (i _ _ _ q)⟩
theorem pw_imp {t t' : TT} (h : PW X e t) (i : ∀ σ H Q, t' σ H Q → t σ H Q) : PW X e t' := ⟨fun w pins s σ H Q I q => h.run w pins s σ H Q I (i _ _ _ q)⟩
theorem pa_imp {t t' : TA} (h : PA X es t) (i : ∀ σ H Q, t' σ H Q → t σ H Q) : PA X es t' := ⟨fun p pins s σ H Q I q => h.run p pins s σ H Q I (i _ _ _ q)⟩
/-! ### creators -/
theorem Holds.frz {K : PySem.W.Frag} {mg : Str → Option Value} {H : Hp} {W : Wd} {p : Addr} {d : D} (h1 : p ∉ W.r) (h2 : p ∉ W.x) (h : Holds K mg H (W.push p) p d) : Rep K mg H W (.ref p) d := by
  cases h with
  | lst h r => exact .lst ⟨h1, h2⟩ h (r.less Less.pop)
  | dicK h e r => exact .dicK ⟨h1, h2⟩ h e (r.less Less.pop)
  | dicT h e r => exact .dicT ⟨h1, h2⟩ h e (r.less Less.pop)
  | obj f2 hc n h h3 r => exact .obj ⟨h1, h2⟩ (Less.pop.1 _ f2) hc h h3 (r.less Less.pop)
  | obj0 hc n hw h h3 => exact .obj0 ⟨h1, h2⟩ hc h
theorem sc_frz {m : M} (h : SC X e m) : SE X e m := pe_imp h fun σ H Q ⟨W, en, S, d, S', hE, hS, hm, q⟩ =>
  ⟨W, en, S, d, S', hE, hS, hm, fun p W' H' st hp np nx hh hs => q _ _ _ st (hh.frz np nx) hs.pop⟩
def mNew (m : M) : M := fun e S => (m e S).bind fun x => some (.loc x.2.length, x.2 ++ [x.1])
theorem sc_new {m : M} (h : SC X e m) : SE X e (mNew m) := pe_imp h fun σ H Q ⟨W, en, S, d, S', hE, hS, hm, q⟩ => by
  unfold mNew at hm
  obtain ⟨⟨d1, S1⟩, h1, h2⟩ := Option.bind_eq_some_iff.mp hm
  cases h2
  refine ⟨W, en, S, d1, S1, hE, hS, h1, fun p W' H' st hp np nx hh hs => ?_⟩
  have so := hs.own np nx hh
  refine q (.ref p) (W'.own p) H' ⟨st.x, ?_, st.th, st.fr, st.tups, st.frzs⟩ (.loc ?_) so
  · obtain ⟨m, e1, e2⟩ := st.r
    refine ⟨m ++ [p], by show W'.r ++ [p] = _; rw [e1, List.append_assoc], fun a ha => ?_⟩
    rcases List.mem_append.mp ha with z | z
    · exact e2 a z
    · rw [List.mem_singleton.mp z]; exact hp
  · show (W'.r ++ [p])[S1.length]? = some p
    have : S1.length = W'.r.length := hs.len
    rw [this]; simp
/-! ### names, constants -/
def mVar (i : Nat) : M := fun e S => match e[i]? with
  | some (some d) => some (d, S)
  | _ => none
def mC (d : D) : M := fun _ S => some (d, S)
theorem se_var (i : Nat) {x : Str} (hN : X.N[i]? = some x := by rfl) (hv : Vis X.env.scope x := by first | exact Or.inl rfl | exact Or.inr (Or.inl rfl) | exact Or.inr (Or.inr rfl)) (hd : (x == ("__debug__" : Str)) = false := by decide)
    (hcd : (x == ("__classdict__" : Str)) = false := by decide) : SE X (.Name x pos) (mVar i) := pe_imp (pe_var hN hv hd hcd) fun σ H Q ⟨W, en, S, d, S', hE, hS, hm, q⟩ => by
  unfold mVar at hm
  split at hm
  · rename_i d1 h1
    cases hm
    obtain ⟨v, h2, r⟩ := hE.at_ i _ h1
    exact ⟨v, h2, q v W H .refl r hS⟩
  · cases hm
theorem se_c {v : V} {d : D} (h : PE X e (tC v)) (r : ∀ H W, Rep X.K X.mg H W v d) : SE X e (mC d) := pe_imp h fun σ H Q ⟨W, en, S, d1, S', hE, hS, hm, q⟩ => by
  unfold mC at hm
  cases hm
  exact q v W H .refl (r H W) hS
theorem se_int {i : Int} {j : Nat} : SE X (.Constant (.int i) j pos) (mC (.int i)) := se_c pe_int fun _ _ => .int i
theorem se_bl {i : Bool} {j : Nat} : SE X (.Constant (.bool i) j pos) (mC (.bl i)) := se_c pe_bl fun _ _ => .bl i
theorem se_str {i : Str} {j : Nat} : SE X (.Constant (.str i) j pos) (mC (.str i)) := se_c pe_str fun _ _ => .str i
theorem se_non {j : Nat} : SE X (.Constant .none j pos) (mC .non) := se_c pe_non fun _ _ => .non
theorem se_globS {x y : Str} {t : Tok} (hg : Gl X x) (hm : X.mg x = some (.str y t)) (hd : (x == ("__debug__" : Str)) = false := by decide) : SE X (.Name x pos) (mC (.str y)) := se_c (pe_glob (v := .str y) hg hm ⟨_, rfl⟩ hd) fun _ _ => .str y
theorem se_globI {x : Str} {y : Int} {t : Tok} (hg : Gl X x) (hm : X.mg x = some (.int y t)) (hd : (x == ("__debug__" : Str)) = false := by decide) : SE X (.Name x pos) (mC (.int y)) := se_c (pe_glob (v := .int y) hg hm ⟨_, rfl⟩ hd) fun _ _ => .int y
/-! ### operators -/
abbrev F1 := Store → D → Option D
abbrev F2 := Store → D → D → Option D
def m1 (f : F1) (a : M) : M := fun e S => (a e S).bind fun x => (f x.2 x.1).map fun d => (d, x.2)
def m2 (f : F2) (a b : M) : M := fun e S => (a e S).bind fun x => (b e x.2).bind fun y => (f y.2 x.1 y.1).map fun d => (d, y.2)
/-- the rule r serves what f tells -/
def Cov1 (K : PySem.W.Frag) (mg : Str → Option Value) (r : V → Hp → VK → Prop) (f : F1) : Prop := ∀ (H : Hp) (W : Wd) (S : Store) (v : V) (d d' : D) (Q : VK), Rep K mg H W v d → StoreOk K mg H W S → f S d = some d' →
  (∀ v' W' H', Step W H W' H' → Rep K mg H' W' v' d' → StoreOk K mg H' W' S → Q v' H') → r v H Q
def Cov2 (K : PySem.W.Frag) (mg : Str → Option Value) (r : R2) (f : F2) : Prop := ∀ (H : Hp) (W : Wd) (S : Store) (v u : V) (d c d' : D) (Q : VK), Rep K mg H W v d → Rep K mg H W u c → StoreOk K mg H W S → f S d c = some d' →
  (∀ v' W' H', Step W H W' H' → Rep K mg H' W' v' d' → StoreOk K mg H' W' S → Q v' H') → r v u H Q
/-- .. as a new thing in hand -/
def Crv1 (K : PySem.W.Frag) (mg : Str → Option Value) (r : V → Hp → VK → Prop) (f : F1) : Prop := ∀ (H : Hp) (W : Wd) (S : Store) (v : V) (d d' : D) (Q : VK), Rep K mg H W v d → StoreOk K mg H W S → f S d = some d' →
  (∀ p H', Step W H W H' → H p = none → p ∉ W.x → Holds K mg H' (W.push p) p d' → StoreOk K mg H' (W.push p) S → Q (.ref p) H') → r v H Q
def Crv2 (K : PySem.W.Frag) (mg : Str → Option Value) (r : R2) (f : F2) : Prop := ∀ (H : Hp) (W : Wd) (S : Store) (v u : V) (d c d' : D) (Q : VK), Rep K mg H W v d → Rep K mg H W u c → StoreOk K mg H W S → f S d c = some d' →
  (∀ p H', Step W H W H' → H p = none → p ∉ W.x → Holds K mg H' (W.push p) p d' → StoreOk K mg H' (W.push p) S → Q (.ref p) H') → r v u H Q
theorem m2_eq {f : F2} {ma mb : M} {en : MEnv} {S S' : Store} {d : D} (h : m2 f ma mb en S = some (d, S')) : ∃ d1 S1 d2, ma en S = some (d1, S1) ∧ mb en S1 = some (d2, S') ∧ f S' d1 d2 = some d := by
  unfold m2 at h
  obtain ⟨⟨d1, S1⟩, h1, h⟩ := Option.bind_eq_some_iff.mp h
  obtain ⟨⟨d2, S2⟩, h2, h⟩ := Option.bind_eq_some_iff.mp h
  obtain ⟨d3, h3, h⟩ := Option.map_eq_some_iff.mp h
  cases h
  exact ⟨d1, S1, d2, h1, h2, h3⟩
theorem m1_eq {f : F1} {ma : M} {en : MEnv} {S S' : Store} {d : D} (h : m1 f ma en S = some (d, S')) : ∃ d1, ma en S = some (d1, S') ∧ f S' d1 = some d := by
  unfold m1 at h
  obtain ⟨⟨d1, S1⟩, h1, h⟩ := Option.bind_eq_some_iff.mp h
  obtain ⟨d3, h3, h⟩ := Option.map_eq_some_iff.mp h
  cases h
  exact ⟨d1, h1, h3⟩
/-- two operands, then r -/
theorem two_ok {K : PySem.W.Frag} {mg : Str → Option Value} {r : R2} {f : F2} (c : Cov2 K mg r f) {ma mb : M} {σ : L2.St} {H : Hp} {Q : VK} (h : tE K mg (m2 f ma mb) σ H Q) : tOp r (tE K mg ma) (tE K mg mb) σ H Q := by
  obtain ⟨W, en, S, d, S', hE, hS, hm, q⟩ := h
  obtain ⟨d1, S1, d2, h1, h2, h3⟩ := m2_eq hm
  refine ⟨W, en, S, d1, S1, hE, hS, h1, fun v1 W1 H1 st1 r1 s1 => ⟨W1, en, S1, d2, S', hE.mono st1, s1, h2, fun v2 W2 H2 st2 r2 s2 => ?_⟩⟩
  exact c H2 W2 S' v1 v2 d1 d2 d Q (r1.mono st2) r2 s2 h3 fun v' W' H' st rv sv => q v' W' H' (st1.trans (st2.trans st)) rv sv
theorem StepR {W W' : Wd} {H H' : Hp} {p : Addr} (h : Step W H W' H') : H' p = none → H p = none := h.free
theorem two_cr {K : PySem.W.Frag} {mg : Str → Option Value} {r : R2} {f : F2} (c : Crv2 K mg r f) {ma mb : M} {σ : L2.St} {H : Hp} {Q : VK} (h : tCr K mg (m2 f ma mb) σ H Q) : tOp r (tE K mg ma) (tE K mg mb) σ H Q := by
  obtain ⟨W, en, S, d, S', hE, hS, hm, q⟩ := h
  obtain ⟨d1, S1, d2, h1, h2, h3⟩ := m2_eq hm
  refine ⟨W, en, S, d1, S1, hE, hS, h1, fun v1 W1 H1 st1 r1 s1 => ⟨W1, en, S1, d2, S', hE.mono st1, s1, h2, fun v2 W2 H2 st2 r2 s2 => ?_⟩⟩
  exact c H2 W2 S' v1 v2 d1 d2 d Q (r1.mono st2) r2 s2 h3 fun p H' st hp nx hh hs => q p W2 H' (st1.trans (st2.trans st)) ((st1.trans st2).free hp) (s2.nw hp) nx hh hs
theorem one_ok {K : PySem.W.Frag} {mg : Str → Option Value} {r : V → Hp → VK → Prop} {f : F1} (c : Cov1 K mg r f) {ma : M} {σ : L2.St} {H : Hp} {Q : VK} (h : tE K mg (m1 f ma) σ H Q) : tE K mg ma σ H (fun x H1 => r x H1 Q) := by
  obtain ⟨W, en, S, d, S', hE, hS, hm, q⟩ := h
  obtain ⟨d1, h1, h3⟩ := m1_eq hm
  exact ⟨W, en, S, d1, S', hE, hS, h1, fun v1 W1 H1 st1 r1 s1 => c H1 W1 S' v1 d1 d Q r1 s1 h3 fun v' W' H' st rv sv => q v' W' H' (st1.trans st) rv sv⟩
theorem one_cr {K : PySem.W.Frag} {mg : Str → Option Value} {r : V → Hp → VK → Prop} {f : F1} (c : Crv1 K mg r f) {ma : M} {σ : L2.St} {H : Hp} {Q : VK} (h : tCr K mg (m1 f ma) σ H Q) : tE K mg ma σ H (fun x H1 => r x H1 Q) := by
  obtain ⟨W, en, S, d, S', hE, hS, hm, q⟩ := h
  obtain ⟨d1, h1, h3⟩ := m1_eq hm
  exact ⟨W, en, S, d1, S', hE, hS, h1, fun v1 W1 H1 st1 r1 s1 => c H1 W1 S' v1 d1 d Q r1 s1 h3 fun p H' st hp nx hh hs => q p W1 H' (st1.trans st) (st1.free hp) (s1.nw hp) nx hh hs⟩
theorem se_op {op : Operator} {r : R2} {f : F2} {ma mb : M} (ho : OpR X (binaryOp op) r) (c : Cov2 X.K X.mg r f) (ha : SE X a ma) (hb : SE X b mb) : SE X (.BinOp a op b pos) (m2 f ma mb) := pe_imp (pe_op ho ha hb) fun _ _ _ => two_ok c
theorem sc_op {op : Operator} {r : R2} {f : F2} {ma mb : M} (ho : OpR X (binaryOp op) r) (c : Crv2 X.K X.mg r f) (ha : SE X a ma) (hb : SE X b mb) : SC X (.BinOp a op b pos) (m2 f ma mb) := pe_imp (pe_op ho ha hb) fun _ _ _ => two_cr c
theorem se_cmp {op : CmpOp} {r : R2} {f : F2} {ma mb : M} (ho : OpR X (compareOp op) r) (c : Cov2 X.K X.mg r f) (ha : SE X a ma) (hb : SE X b mb) (hm : behindInMarks op b = false) : SE X (.Compare a [op] [b] pos) (m2 f ma mb) := pe_imp (pe_cmpR ho ha hb hm) fun _ _ _ => two_ok c
theorem se_un {op : UnaryOp} {r : V → Hp → VK → Prop} {f : F1} {ma : M} (ho : UnR X (unaryOp op) r) (c : Cov1 X.K X.mg r f) (ha : SE X a ma) : SE X (.UnaryOp op a pos) (m1 f ma) := pe_imp (pe_un ho ha) fun _ _ _ => one_ok c
theorem se_ix {r : R2} {f : F2} {ma mb : M} (ho : IxR X r) (c : Cov2 X.K X.mg r f) (ha : SE X a ma) (hb : SE X b mb) (hs : PlainIx b) : SE X (.Subscript a b pos) (m2 f ma mb) := pe_imp (pe_ix ho ha hb hs) fun _ _ _ => two_ok c
/-- either rule -/
theorem Cov2.or {K : PySem.W.Frag} {mg : Str → Option Value} {r r' : R2} {f g : F2} (h : Cov2 K mg r f) (h' : Cov2 K mg r' g) : Cov2 K mg (fun x y H Q => r x y H Q ∨ r' x y H Q) (fun S x y => (f S x y).orElse fun _ => g S x y) := by
  intro H W S v u d c d' Q rv ru s hf q
  cases e : f S d c with
  | some z =>
    simp only [e] at hf
    cases hf
    exact .inl (h H W S v u d c _ Q rv ru s e q)
  | none =>
    simp only [e] at hf
    exact .inr (h' H W S v u d c d' Q rv ru s hf q)
end
end MM
set_option maxRecDepth 100000
set_option maxHeartbeats 2000000
namespace MM
open PySem PySem.Spec PyProof.Rows L2
variable [TB : Tabl]
theorem line_big {n : Nat} (h : n ≤ 4000) : n < sizeLine := Nat.lt_of_le_of_lt h (by rw [sizeLine_eq]; decide)
/-! ### what two values give -/
def fAdd : F2 := fun S x y => match x, y with
  | .int i, .int j => some (.int (i + j))
  | .str a, .str b => if a.length + b.length ≤ 4000 then some (.str (a ++ b)) else none
  | .tup xs, .tup ys => if xs.length + ys.length ≤ 4000 then some (.tup (xs ++ ys)) else none
  | x, y => match deref S x, deref S y with
    | some (.lst xs), some (.lst ys) => if xs.length + ys.length ≤ 4000 then some (.lst (xs ++ ys)) else none
    | _, _ => none
def fAddL : F2 := fun S x y => match deref S x, deref S y with
    | some (.lst xs), some (.lst ys) => if xs.length + ys.length ≤ 4000 then some (.lst (xs ++ ys)) else none
    | _, _ => none
def fSub : F2 := fun _ x y => match x, y with
  | .int i, .int j => some (.int (i - j))
  | _, _ => none
def okM (i j : Int) : Bool := decide (-(2 ^ 64) < i ∧ i < 2 ^ 64) || decide (-(2 ^ 64) < j ∧ j < 2 ^ 64)
def fMul : F2 := fun _ x y => match x, y with
  | .int i, .int j => if okM i j then some (.int (i * j)) else none
  | _, _ => none
def fDiv : F2 := fun _ x y => match x, y with
  | .int i, .int j => if 0 < j ∧ j < 1073741824 then some (.int (i / j)) else none
  | _, _ => none
def fMod : F2 := fun _ x y => match x, y with
  | .int i, .int j => if 0 < j then some (.int (i % j)) else none
  | _, _ => none
def fPow : F2 := fun _ x y => match x, y with
  | .int i, .int j => if 0 ≤ j ∧ j ≤ 1000 ∧ i.natAbs < 2 ^ 64 then some (.int (i ^ j.toNat)) else none
  | _, _ => none
def fRepL : F2 := fun S x y => match deref S x, y with
  | some (.lst xs), .int k => if k ≤ 1000 ∧ xs.length ≤ 4 ∧ -1000 ≤ k then some (.lst (List.replicate k.toNat xs).flatten) else none
  | _, _ => none
def fNeg : F1 := fun _ x => match x with
  | .int i => some (.int (-i))
  | _ => none
section
variable {K : PySem.W.Frag} {mg : Str → Option Value}
theorem Crv2.frz {r : R2} {f : F2} (h : Crv2 K mg r f) : Cov2 K mg r f := fun H W S v u d c d' Q rv ru s hf q =>
  h H W S v u d c d' Q rv ru s hf fun p H' st hp nx hh hs => q _ W H' st (hh.frz (s.nw hp) nx) hs.pop
theorem Crv1.frz {r : V → Hp → VK → Prop} {f : F1} (h : Crv1 K mg r f) : Cov1 K mg r f := fun H W S v d d' Q rv s hf q =>
  h H W S v d d' Q rv s hf fun p H' st hp nx hh hs => q _ W H' st (hh.frz (s.nw hp) nx) hs.pop
theorem Cov2.here {r : R2} {f : F2} (h : ∀ (H : Hp) (W : Wd) (S : Store) (v u : V) (d c d' : D) (Q : VK), Rep K mg H W v d → Rep K mg H W u c → StoreOk K mg H W S → f S d c = some d' → (∀ v', Rep K mg H W v' d' → Q v' H) → r v u H Q) : Cov2 K mg r f :=
  fun H W S v u d c d' Q rv ru s hf q => h H W S v u d c d' Q rv ru s hf fun v' r' => q v' W H .refl r' s
theorem Cov1.here {r : V → Hp → VK → Prop} {f : F1} (h : ∀ (H : Hp) (W : Wd) (S : Store) (v : V) (d d' : D) (Q : VK), Rep K mg H W v d → StoreOk K mg H W S → f S d = some d' → (∀ v', Rep K mg H W v' d' → Q v' H) → r v H Q) : Cov1 K mg r f :=
  fun H W S v d d' Q rv s hf q => h H W S v d d' Q rv s hf fun v' r' => q v' W H .refl r' s
theorem Cov2.le {r : R2} {f g : F2} (h : Cov2 K mg r g) (l : ∀ S x y d, f S x y = some d → g S x y = some d) : Cov2 K mg r f := fun H W S v u d c d' Q rv ru s hf q => h H W S v u d c d' Q rv ru s (l _ _ _ _ hf) q
theorem Cov2.inl {r r' : R2} {f : F2} (h : Cov2 K mg r f) : Cov2 K mg (fun x y H Q => r x y H Q ∨ r' x y H Q) f := fun H W S v u d c d' Q rv ru s hf q => .inl (h H W S v u d c d' Q rv ru s hf q)
theorem Cov2.inr {r r' : R2} {f : F2} (h : Cov2 K mg r' f) : Cov2 K mg (fun x y H Q => r x y H Q ∨ r' x y H Q) f := fun H W S v u d c d' Q rv ru s hf q => .inr (h H W S v u d c d' Q rv ru s hf q)
/-- a new list at p -/
theorem new_list {H : Hp} {W : Wd} {S : Store} {Q : VK} {us : List V} {ds : List D} (s : StoreOk K mg H W S) (r : Reps K mg H W us ds)
    (q : ∀ p H', Step W H W H' → H p = none → p ∉ W.x → Holds K mg H' (W.push p) p (.lst ds) → StoreOk K mg H' (W.push p) S → Q (.ref p) H') : ∀ p, H p = none → Q (.ref p) (upd H p (.lst us)) := fun p hp =>
  q p _ (.laid hp) hp (s.nx hp) (.lst upd_same ((r.push hp).mono (.laid hp))) (s.laidPush hp)
/-- a new tuple -/
theorem new_tup {H : Hp} {W : Wd} {S : Store} {Q : VK} {us : List V} {ds : List D} (s : StoreOk K mg H W S) (r : Reps K mg H W us ds)
    (q : ∀ v' W' H', Step W H W' H' → Rep K mg H' W' v' (.tup ds) → StoreOk K mg H' W' S → Q v' H') : ∀ p, H p = none → Q (.ref p) (upd H p (.tup us)) := fun p hp =>
  q _ W _ (.laid hp) (.tup (.inl (.inl upd_same)) (r.mono (.laid hp))) (s.laid hp)
theorem cov_add : Cov2 K mg (fun x y H Q => (∃ i j, x = .int i ∧ y = .int j ∧ Q (.int (i + j)) H) ∨ ((∃ i j, x = .str i ∧ y = .str j ∧ i.length + j.length ≤ sizeLine ∧ Q (.str (i ++ j)) H) ∨ (rCatA K x y H Q ∨ rCat x y H Q))) fAdd := by
  intro H W S v u d c d' Q rv ru s hf q
  unfold fAdd at hf
  split at hf
  · cases rv; cases ru; cases hf
    exact .inl ⟨_, _, rfl, rfl, q _ W H .refl (.int _) s⟩
  · cases rv; cases ru
    split at hf
    · rename_i hz
      cases hf
      exact .inr (.inl ⟨_, _, rfl, rfl, Nat.le_of_lt (line_big hz), q _ W H .refl (.str _) s⟩)
    · cases hf
  · split at hf
    · rename_i hz
      cases hf
      cases rv with
      | @tup a vs _ h1 r1 =>
        cases ru with
        | @tup b us _ h2 r2 =>
          have e1 := r1.length
          have e2 := r2.length
          refine .inr (.inr (.inl ⟨a, b, vs, us, rfl, rfl, h1, h2, by rw [e1, e2]; exact Nat.le_of_lt (line_big hz), fun e => ?_, fun _ e => ?_, fun _ _ => ?_⟩))
          · subst e
            cases r1
            exact q _ W H .refl (.tup h2 r2) s
          · subst e
            cases r2
            rw [List.append_nil] at q
            exact q _ W H .refl (.tup h1 r1) s
          · exact new_tup s (r1.append r2) q
    · cases hf
  · split at hf
    · rename_i xs ys hx hy
      split at hf
      · rename_i hz
        cases hf
        obtain ⟨a, vs, rfl, h1, r1⟩ := rv.lstR s hx
        obtain ⟨b, us, rfl, h2, r2⟩ := ru.lstR s hy
        have e1 := r1.length
        have e2 := r2.length
        refine .inr (.inr (.inr ⟨a, b, vs, us, rfl, rfl, h1, h2, by rw [e1, e2]; exact Nat.le_of_lt (line_big hz), ?_⟩))
        exact new_list s (r1.append r2) fun p H' st hp nx hh hs => q _ W H' st (hh.frz (s.nw hp) nx) hs.pop
      · cases hf
    · cases hf
theorem crv_addL : Crv2 K mg rCat fAddL := by
  intro H W S v u d c d' Q rv ru s hf q
  unfold fAddL at hf
  split at hf
  · rename_i xs ys hx hy
    split at hf
    · rename_i hz
      cases hf
      obtain ⟨a, vs, rfl, h1, r1⟩ := rv.lstR s hx
      obtain ⟨b, us, rfl, h2, r2⟩ := ru.lstR s hy
      have e1 := r1.length
      have e2 := r2.length
      exact ⟨a, b, vs, us, rfl, rfl, h1, h2, by rw [e1, e2]; exact Nat.le_of_lt (line_big hz), new_list s (r1.append r2) q⟩
    · cases hf
  · cases hf
theorem cov_sub : Cov2 K mg (rI0 fun i j => .int (i - j)) fSub := .here fun H W S v u d c d' Q rv ru s hf q => by
  unfold fSub at hf
  split at hf
  · cases rv; cases ru; cases hf; exact ⟨_, _, rfl, rfl, q _ (.int _)⟩
  · cases hf
theorem cov_mul : Cov2 K mg (rI CMul fun i j => .int (i * j)) fMul := .here fun H W S v u d c d' Q rv ru s hf q => by
  unfold fMul at hf
  split at hf
  · cases rv; cases ru
    split at hf
    · rename_i hz
      cases hf
      refine ⟨_, _, rfl, rfl, ?_, q _ (.int _)⟩
      unfold okM at hz
      rcases Bool.or_eq_true_iff.mp hz with z | z
      · exact .inl (of_decide_eq_true z)
      · exact .inr (of_decide_eq_true z)
    · cases hf
  · cases hf
theorem cov_div : Cov2 K mg (rI CDiv fun i j => .int (i / j)) fDiv := .here fun H W S v u d c d' Q rv ru s hf q => by
  unfold fDiv at hf
  split at hf
  · cases rv; cases ru
    split at hf
    · rename_i hz
      cases hf
      exact ⟨_, _, rfl, rfl, hz, q _ (.int _)⟩
    · cases hf
  · cases hf
theorem cov_mod : Cov2 K mg (rI (fun _ j => 0 < j) fun i j => .int (i % j)) fMod := .here fun H W S v u d c d' Q rv ru s hf q => by
  unfold fMod at hf
  split at hf
  · cases rv; cases ru
    split at hf
    · rename_i hz
      cases hf
      exact ⟨_, _, rfl, rfl, hz, q _ (.int _)⟩
    · cases hf
  · cases hf
theorem cov_pow : Cov2 K mg (rI CPow fun i j => .int (i ^ j.toNat)) fPow := .here fun H W S v u d c d' Q rv ru s hf q => by
  unfold fPow at hf
  split at hf
  · cases rv; cases ru
    split at hf
    · rename_i hz
      cases hf
      exact ⟨_, _, rfl, rfl, ⟨hz.1, by omega, hz.2.2⟩, q _ (.int _)⟩
    · cases hf
  · cases hf
theorem Reps.rep {H : Hp} {W : Wd} {vs : List V} {ds : List D} (r : Reps K mg H W vs ds) : ∀ n : Nat, Reps K mg H W (List.replicate n vs).flatten (List.replicate n ds).flatten
  | 0 => .nil
  | n + 1 => by simp only [List.replicate_succ, List.flatten_cons]; exact r.append (Reps.rep r n)
theorem crv_repL : Crv2 K mg rRep fRepL := by
  intro H W S v u d c d' Q rv ru s hf q
  unfold fRepL at hf
  split at hf
  · rename_i xs k hx
    cases ru
    split at hf
    · rename_i hz
      cases hf
      obtain ⟨a, vs, rfl, h1, r1⟩ := rv.lstR s hx
      have e1 := r1.length
      refine ⟨a, _, vs, rfl, rfl, h1, by omega, by omega, ?_, new_list s (r1.rep k.toNat) q⟩
      have : vs.length * k.toNat ≤ 4 * 1000 := Nat.mul_le_mul (by omega) (by omega)
      exact Nat.le_of_lt (line_big this)
    · cases hf
  · cases hf
theorem cov_neg : Cov1 K mg (rU fun i => .int (-i)) fNeg := .here fun H W S v d d' Q rv s hf q => by
  unfold fNeg at hf
  split at hf
  · cases rv; cases hf; exact ⟨_, rfl, q _ (.int _)⟩
  · cases hf
end
section
variable {X : Cx} {a b : Expr} {pos : Pos} {ma mb : M}
theorem se_add (ha : SE X a ma) (hb : SE X b mb) : SE X (.BinOp a .Add b pos) (m2 fAdd ma mb) := se_op (op_add.or (op_add_str.or (op_catA.or op_cat))) cov_add ha hb
theorem sc_add (ha : SE X a ma) (hb : SE X b mb) : SC X (.BinOp a .Add b pos) (m2 fAddL ma mb) := sc_op op_cat crv_addL ha hb
theorem se_sub (ha : SE X a ma) (hb : SE X b mb) : SE X (.BinOp a .Sub b pos) (m2 fSub ma mb) := se_op op_sub cov_sub ha hb
theorem se_mul (ha : SE X a ma) (hb : SE X b mb) : SE X (.BinOp a .Mult b pos) (m2 fMul ma mb) := se_op op_mul cov_mul ha hb
theorem se_div (ha : SE X a ma) (hb : SE X b mb) : SE X (.BinOp a .FloorDiv b pos) (m2 fDiv ma mb) := se_op op_fdiv cov_div ha hb
theorem se_mod (ha : SE X a ma) (hb : SE X b mb) : SE X (.BinOp a .Mod b pos) (m2 fMod ma mb) := se_op op_mod cov_mod ha hb
theorem se_pow (ha : SE X a ma) (hb : SE X b mb) : SE X (.BinOp a .Pow b pos) (m2 fPow ma mb) := se_op op_pow cov_pow ha hb
theorem sc_rep (ha : SE X a ma) (hb : SE X b mb) : SC X (.BinOp a .Mult b pos) (m2 fRepL ma mb) := sc_op op_rep crv_repL ha hb
theorem se_neg (ha : SE X a ma) : SE X (.UnaryOp .USub a pos) (m1 fNeg ma) := se_un un_neg cov_neg ha
end
end MM
set_option maxRecDepth 100000
set_option maxHeartbeats 2000000
namespace MM
open PySem PySem.Spec PyProof.Rows L2
variable [TB : Tabl]
/-! ### comparisons -/
def toPy (S : Store) : Nat → D → Option PyData
  | 0, _ => none
  | _ + 1, .non => some .none
  | _ + 1, .bl b => some (.bool b)
  | _ + 1, .int i => some (.int i)
  | _ + 1, .str x => some (.str x)
  | n + 1, .tup xs => (xs.mapM (toPy S n)).map .tuple
  | n + 1, .lst xs => (xs.mapM (toPy S n)).map .list
  | n + 1, .loc k => match S[k]? with
    | some (.lst xs) => (xs.mapM (toPy S n)).map .list
    | _ => none
  | _ + 1, _ => none
def eqD (S : Store) (x y : D) : Option Bool := match toPy S 60 x, toPy S 60 y with
  | some p, some q => if SeqAt.shaped p && SeqAt.shaped q then some (PyData.eqv p q) else none
  | _, _ => none
def fEq : F2 := fun S x y => (eqD S x y).map .bl
def fNe : F2 := fun S x y => (eqD S x y).map fun b => .bl (!b)
def fLt : F2 := fun _ x y => match x, y with
  | .int i, .int j => some (.bl (decide (i < j)))
  | .str i, .str j => some (.bl (decide (i.cps.toList < j.cps.toList)))
  | _, _ => none
def fGt : F2 := fun _ x y => match x, y with
  | .int i, .int j => some (.bl (decide (j < i)))
  | .str i, .str j => some (.bl (decide (j.cps.toList < i.cps.toList)))
  | _, _ => none
def fLe : F2 := fun _ x y => match x, y with
  | .int i, .int j => some (.bl (decide (i ≤ j)))
  | .str i, .str j => some (.bl (!decide (j.cps.toList < i.cps.toList)))
  | _, _ => none
def fGe : F2 := fun _ x y => match x, y with
  | .int i, .int j => some (.bl (decide (j ≤ i)))
  | .str i, .str j => some (.bl (!decide (i.cps.toList < j.cps.toList)))
  | _, _ => none
def isNonD : D → Bool
  | .non => true
  | _ => false
def fIs : F2 := fun _ x y => match x, y with
  | x, .non => some (.bl (isNonD x))
  | .bl a, .bl b => some (.bl (decide (a = b)))
  | _, _ => none
def fIsN : F2 := fun _ x y => match x, y with
  | x, .non => some (.bl (!isNonD x))
  | .bl a, .bl b => some (.bl (!decide (a = b)))
  | _, _ => none
section
variable {K : PySem.W.Frag} {mg : Str → Option Value}
theorem toPy_dp {H : Hp} {W : Wd} {S : Store} (s : StoreOk K mg H W S) : ∀ (n : Nat) (d : D) (v : V) (p : PyData), Rep K mg H W v d → toPy S n d = some p → Dp K H v p := by
  intro n
  induction n with
  | zero => intro d v p r h; cases h
  | succ n ih =>
    have all : ∀ (ds : List D) (vs : List V) (ps : List PyData), Reps K mg H W vs ds → ds.mapM (toPy S n) = some ps → DpAll K H vs ps := by
      intro ds
      induction ds with
      | nil => intro vs ps r h; cases r; simp at h; subst h; exact .nil
      | cons d ds ih2 =>
        intro vs ps r h
        cases r with
        | cons r1 r2 =>
          rw [List.mapM_cons] at h
          obtain ⟨p1, h1, h⟩ := Option.bind_eq_some_iff.mp h
          obtain ⟨p2, h2, h⟩ := Option.bind_eq_some_iff.mp h
          cases h
          exact .cons (ih _ _ _ r1 h1) (ih2 _ _ r2 h2)
    intro d v p r h
    cases r with
    | non => cases h; exact .non
    | bl b => cases h; exact .bl b
    | int i => cases h; exact .int i
    | str x => cases h; exact .str x
    | tup h1 r1 =>
      obtain ⟨ps, e, h⟩ := Option.map_eq_some_iff.mp (show (List.mapM (toPy S n) _).map PyData.tuple = some p from h)
      subst h
      exact .tup h1 (all _ _ _ r1 e)
    | lst f h1 r1 =>
      obtain ⟨ps, e, h⟩ := Option.map_eq_some_iff.mp (show (List.mapM (toPy S n) _).map PyData.list = some p from h)
      subst h
      exact .lst (.inl (.inl h1)) (all _ _ _ r1 e)
    | @loc k a h1 =>
      have h : (match S[k]? with | some (D.lst xs) => (xs.mapM (toPy S n)).map PyData.list | _ => none) = some p := h
      split at h
      · rename_i xs hx
        obtain ⟨ps, e, h⟩ := Option.map_eq_some_iff.mp h
        subst h
        cases s.at_ _ _ _ h1 hx with
        | lst h2 r2 => exact .lst (.inl (.inl h2)) (all _ _ _ r2 e)
      · cases h
    | _ => cases h
theorem eqD_ok {H : Hp} {W : Wd} {S : Store} {v u : V} {d c : D} {b : Bool} (s : StoreOk K mg H W S) (rv : Rep K mg H W v d) (ru : Rep K mg H W u c) (h : eqD S d c = some b) :
    ∃ p q, Dp K H v p ∧ Dp K H u q ∧ SeqAt.shaped p = true ∧ SeqAt.shaped q = true ∧ PyData.eqv p q = b := by
  unfold eqD at h
  split at h
  · rename_i p q hp hq
    split at h
    · rename_i hz
      cases h
      obtain ⟨z1, z2⟩ := Bool.and_eq_true_iff.mp hz
      exact ⟨p, q, toPy_dp s _ _ _ _ rv hp, toPy_dp s _ _ _ _ ru hq, z1, z2, rfl⟩
    · cases h
  · cases h
theorem cov_eq : Cov2 K mg (rEqD K) fEq := .here fun H W S v u d c d' Q rv ru s hf q => by
  obtain ⟨b, h, e⟩ := Option.map_eq_some_iff.mp hf
  subst e
  obtain ⟨p, p2, h1, h2, h3, h4, h5⟩ := eqD_ok s rv ru h
  exact ⟨p, p2, h1, h2, h3, h4, by rw [h5]; exact q _ (.bl _)⟩
theorem cov_ne : Cov2 K mg (rNeD K) fNe := .here fun H W S v u d c d' Q rv ru s hf q => by
  obtain ⟨b, h, e⟩ := Option.map_eq_some_iff.mp hf
  subst e
  obtain ⟨p, p2, h1, h2, h3, h4, h5⟩ := eqD_ok s rv ru h
  exact ⟨p, p2, h1, h2, h3, h4, by rw [h5]; exact q _ (.bl _)⟩
theorem cov_lt : Cov2 K mg (fun x y H Q => (∃ i j, x = .int i ∧ y = .int j ∧ Q (.bl (decide (i < j))) H) ∨ (∃ i j, x = .str i ∧ y = .str j ∧ Q (.bl (decide (i.cps.toList < j.cps.toList))) H)) fLt := .here fun H W S v u d c d' Q rv ru s hf q => by
  unfold fLt at hf
  split at hf
  · cases rv; cases ru; cases hf; exact .inl ⟨_, _, rfl, rfl, q _ (.bl _)⟩
  · cases rv; cases ru; cases hf; exact .inr ⟨_, _, rfl, rfl, q _ (.bl _)⟩
  · cases hf
theorem cov_gt : Cov2 K mg (fun x y H Q => (∃ i j, x = .int i ∧ y = .int j ∧ Q (.bl (decide (j < i))) H) ∨ (∃ i j, x = .str i ∧ y = .str j ∧ Q (.bl (decide (j.cps.toList < i.cps.toList))) H)) fGt := .here fun H W S v u d c d' Q rv ru s hf q => by
  unfold fGt at hf
  split at hf
  · cases rv; cases ru; cases hf; exact .inl ⟨_, _, rfl, rfl, q _ (.bl _)⟩
  · cases rv; cases ru; cases hf; exact .inr ⟨_, _, rfl, rfl, q _ (.bl _)⟩
  · cases hf
theorem cov_le : Cov2 K mg (fun x y H Q => (∃ i j, x = .int i ∧ y = .int j ∧ Q (.bl (decide (i ≤ j))) H) ∨ (∃ i j, x = .str i ∧ y = .str j ∧ Q (.bl (!decide (j.cps.toList < i.cps.toList))) H)) fLe := .here fun H W S v u d c d' Q rv ru s hf q => by
  unfold fLe at hf
  split at hf
  · cases rv; cases ru; cases hf; exact .inl ⟨_, _, rfl, rfl, q _ (.bl _)⟩
  · cases rv; cases ru; cases hf; exact .inr ⟨_, _, rfl, rfl, q _ (.bl _)⟩
  · cases hf
theorem cov_ge : Cov2 K mg (fun x y H Q => (∃ i j, x = .int i ∧ y = .int j ∧ Q (.bl (decide (j ≤ i))) H) ∨ (∃ i j, x = .str i ∧ y = .str j ∧ Q (.bl (!decide (i.cps.toList < j.cps.toList))) H)) fGe := .here fun H W S v u d c d' Q rv ru s hf q => by
  unfold fGe at hf
  split at hf
  · cases rv; cases ru; cases hf; exact .inl ⟨_, _, rfl, rfl, q _ (.bl _)⟩
  · cases rv; cases ru; cases hf; exact .inr ⟨_, _, rfl, rfl, q _ (.bl _)⟩
  · cases hf
theorem isNon_ok {H : Hp} {W : Wd} {v : V} {d : D} (r : Rep K mg H W v d) : decide (v = .non) = isNonD d := by
  cases r <;> rfl
theorem cov_is : Cov2 K mg (fun x y H Q => (y = .non ∧ Q (.bl (decide (x = .non))) H) ∨ (∃ a b, x = .bl a ∧ y = .bl b ∧ Q (.bl (decide (a = b))) H)) fIs := .here fun H W S v u d c d' Q rv ru s hf q => by
  unfold fIs at hf
  split at hf
  · cases ru; cases hf; exact .inl ⟨rfl, by rw [isNon_ok rv]; exact q _ (.bl _)⟩
  · cases rv; cases ru; cases hf; exact .inr ⟨_, _, rfl, rfl, q _ (.bl _)⟩
  · cases hf
theorem cov_isN : Cov2 K mg (fun x y H Q => (y = .non ∧ Q (.bl (!decide (x = .non))) H) ∨ (∃ a b, x = .bl a ∧ y = .bl b ∧ Q (.bl (!decide (a = b))) H)) fIsN := .here fun H W S v u d c d' Q rv ru s hf q => by
  unfold fIsN at hf
  split at hf
  · cases ru; cases hf; exact .inl ⟨rfl, by rw [isNon_ok rv]; exact q _ (.bl _)⟩
  · cases rv; cases ru; cases hf; exact .inr ⟨_, _, rfl, rfl, q _ (.bl _)⟩
  · cases hf
/-! ### in -/
/-- a flat value as an equality sees it -/
def flatD : D → Option V
  | .non => some .non
  | .bl b => some (.bl b)
  | .int i => some (.int i)
  | .str x => some (.str x)
  | _ => none
theorem flat_ok {H : Hp} {W : Wd} {v u : V} {d : D} (r : Rep K mg H W v d) (h : flatD d = some u) : v = u ∧ flatV v = true := by
  cases r <;> cases h <;> exact ⟨rfl, rfl⟩
def seqOf (S : Store) (d : D) : Option (List D) := match deref S d with
  | some (.lst xs) => some xs
  | some (.tup xs) => some xs
  | some (.scr xs) => some xs
  | _ => none
def inD (S : Store) (x y : D) : Option Bool := match x, y with
  | .str ⟨⟨[c]⟩⟩, .str z => some (decide (c ∈ z.cps.toList))
  | x, y => match flatD x, (seqOf S y).bind fun xs => xs.mapM flatD with
    | some v, some vs => some (inV v vs)
    | _, _ => none
theorem Rep.seqR {H : Hp} {W : Wd} {S : Store} {v : V} {d : D} {xs : List D} (r : Rep K mg H W v d) (s : StoreOk K mg H W S) (h : seqOf S d = some xs) : ∃ a vs, v = .ref a ∧ (SqL K H a vs ∨ SqT K H a vs) ∧ Reps K mg H W vs xs := by
  cases r with
  | tup h1 r1 => cases h; exact ⟨_, _, rfl, .inr h1, r1⟩
  | lst f h1 r1 => cases h; exact ⟨_, _, rfl, .inl (.inl (.inl h1)), r1⟩
  | scr h1 r1 => cases h; exact ⟨_, _, rfl, .inl h1.sq, r1⟩
  | @loc k a h1 =>
    unfold seqOf deref at h
    dsimp only at h
    split at h
    · rename_i ys hy
      cases h
      cases s.at_ _ _ _ h1 hy with
      | lst h2 r2 => exact ⟨_, _, rfl, .inl (.inl (.inl h2)), r2⟩
    · rename_i ys hy
      cases s.at_ _ _ _ h1 hy
    · rename_i ys hy
      cases s.at_ _ _ _ h1 hy
    · cases h
  | _ => cases h
theorem flats_ok {H : Hp} {W : Wd} : ∀ {vs : List V} {ds : List D} {us : List V}, Reps K mg H W vs ds → ds.mapM flatD = some us → vs = us ∧ vs.all flatV = true
  | _, _, _, .nil, h => by simp at h; subst h; exact ⟨rfl, rfl⟩
  | _, _, _, .cons r t, h => by
    rw [List.mapM_cons] at h
    obtain ⟨p1, h1, h⟩ := Option.bind_eq_some_iff.mp h
    obtain ⟨p2, h2, h⟩ := Option.bind_eq_some_iff.mp h
    cases h
    obtain ⟨e1, f1⟩ := flat_ok r h1
    obtain ⟨e2, f2⟩ := flats_ok t h2
    exact ⟨by rw [e1, e2], by rw [List.all_cons, f1, f2]; rfl⟩
def fIn : F2 := fun S x y => (inD S x y).map .bl
def fNotIn : F2 := fun S x y => (inD S x y).map fun b => .bl (!b)
theorem inD_ok {H : Hp} {W : Wd} {S : Store} {v u : V} {d c : D} {b : Bool} (s : StoreOk K mg H W S) (rv : Rep K mg H W v d) (ru : Rep K mg H W u c) (h : inD S d c = some b) :
    (∃ (c : Nat) (z : Str), v = .str ⟨#[c]⟩ ∧ u = .str z ∧ decide (c ∈ z.cps.toList) = b) ∨ (∃ p xs, u = .ref p ∧ (SqL K H p xs ∨ SqT K H p xs) ∧ flatV v = true ∧ xs.all flatV = true ∧ inV v xs = b) := by
  unfold inD at h
  split at h
  · cases rv; cases ru; cases h; exact .inl ⟨_, _, rfl, rfl, rfl⟩
  · split at h
    · rename_i w ws h1 h2
      cases h
      obtain ⟨xs, h3, h4⟩ := Option.bind_eq_some_iff.mp h2
      obtain ⟨a, vs, rfl, hq, r⟩ := ru.seqR s h3
      obtain ⟨e1, f1⟩ := flat_ok rv h1
      obtain ⟨e2, f2⟩ := flats_ok r h4
      exact .inr ⟨a, vs, rfl, hq, f1, f2, by rw [e1, e2]⟩
    · cases h
theorem cov_in : Cov2 K mg (fun x y H Q => (∃ (c : Nat) (z : Str), x = .str ⟨#[c]⟩ ∧ y = .str z ∧ Q (.bl (decide (c ∈ z.cps.toList))) H) ∨ rIn K false x y H Q) fIn := .here fun H W S v u d c d' Q rv ru s hf q => by
  obtain ⟨b, h, e⟩ := Option.map_eq_some_iff.mp hf
  subst e
  rcases inD_ok s rv ru h with ⟨c, z, rfl, rfl, e⟩ | ⟨p, xs, rfl, h1, h2, h3, e⟩
  · exact .inl ⟨c, z, rfl, rfl, by rw [e]; exact q _ (.bl _)⟩
  · exact .inr ⟨p, xs, rfl, h1, h2, h3, by rw [e]; exact q _ (.bl _)⟩
theorem cov_notIn : Cov2 K mg (fun x y H Q => (∃ (c : Nat) (z : Str), x = .str ⟨#[c]⟩ ∧ y = .str z ∧ Q (.bl (!decide (c ∈ z.cps.toList))) H) ∨ rIn K true x y H Q) fNotIn := .here fun H W S v u d c d' Q rv ru s hf q => by
  obtain ⟨b, h, e⟩ := Option.map_eq_some_iff.mp hf
  subst e
  rcases inD_ok s rv ru h with ⟨c, z, rfl, rfl, e⟩ | ⟨p, xs, rfl, h1, h2, h3, e⟩
  · exact .inl ⟨c, z, rfl, rfl, by rw [e]; exact q _ (.bl _)⟩
  · exact .inr ⟨p, xs, rfl, h1, h2, h3, by rw [e]; exact q _ (.bl _)⟩
end
section
variable {X : Cx} {a b : Expr} {pos : Pos} {ma mb : M}
theorem se_eq (hu : X.A.units + 64 < cLine) (ha : SE X a ma) (hb : SE X b mb) : SE X (.Compare a [.Eq] [b] pos) (m2 fEq ma mb) := se_cmp (op_eqD hu) cov_eq ha hb (nomark _)
theorem se_ne (hu : X.A.units + 64 < cLine) (ha : SE X a ma) (hb : SE X b mb) : SE X (.Compare a [.NotEq] [b] pos) (m2 fNe ma mb) := se_cmp (op_neD hu) cov_ne ha hb (nomark _)
theorem se_lt (ha : SE X a ma) (hb : SE X b mb) : SE X (.Compare a [.Lt] [b] pos) (m2 fLt ma mb) := se_cmp (op_lt.or op_lt_str) cov_lt ha hb (nomark _)
theorem se_gt (ha : SE X a ma) (hb : SE X b mb) : SE X (.Compare a [.Gt] [b] pos) (m2 fGt ma mb) := se_cmp (op_gt.or op_gt_str) cov_gt ha hb (nomark _)
theorem se_le (ha : SE X a ma) (hb : SE X b mb) : SE X (.Compare a [.LtE] [b] pos) (m2 fLe ma mb) := se_cmp (op_le.or op_le_str) cov_le ha hb (nomark _)
theorem se_ge (ha : SE X a ma) (hb : SE X b mb) : SE X (.Compare a [.GtE] [b] pos) (m2 fGe ma mb) := se_cmp (op_ge.or op_ge_str) cov_ge ha hb (nomark _)
theorem se_is (ha : SE X a ma) (hb : SE X b mb) : SE X (.Compare a [.Is] [b] pos) (m2 fIs ma mb) := se_cmp (op_isN.or op_is_bl) cov_is ha hb (nomark _)
theorem se_isN (ha : SE X a ma) (hb : SE X b mb) : SE X (.Compare a [.IsNot] [b] pos) (m2 fIsN ma mb) := se_cmp (op_notN.or op_isnot_bl) cov_isN ha hb (nomark _)
theorem se_in (ha : SE X a ma) (hb : SE X b mb) (hm : behindInMarks .In b = false := by rfl) : SE X (.Compare a [.In] [b] pos) (m2 fIn ma mb) := se_cmp (op_in_sign.or op_in_seq) cov_in ha hb hm
theorem se_notIn (ha : SE X a ma) (hb : SE X b mb) (hm : behindInMarks .NotIn b = false := by rfl) : SE X (.Compare a [.NotIn] [b] pos) (m2 fNotIn ma mb) := se_cmp (op_notIn_sign.or op_notIn_seq) cov_notIn ha hb hm
/-- a < b < c -/
def mCh (f g : F2) (a b c : M) : M := fun e S => (a e S).bind fun x => (b e x.2).bind fun y => match f y.2 x.1 y.1 with
  | some (.bl true) => (c e y.2).bind fun z => (g z.2 y.1 z.1).map fun d => (d, z.2)
  | some (.bl false) => some (.bl false, y.2)
  | _ => none
theorem se_chain {op op' : CmpOp} {r r' : R2} {f g : F2} {c : Expr} {mc : M} (ho : OpR X (compareOp op) r) (ho' : OpR X (compareOp op') r') (cf : Cov2 X.K X.mg r f) (cg : Cov2 X.K X.mg r' g) 
    (ha : SE X a ma) (hb : SE X b mb) (hc : SE X c mc) (h1 : lastMarks [op, op'] [b, c] = false := by with_unfolding_all rfl) : SE X (.Compare a [op, op'] [b, c] pos) (mCh f g ma mb mc) := pe_imp (pe_chain ho ho' ha hb hc h1) fun σ H Q ⟨W, en, S, d, S', hE, hS, hm, q⟩ => by
  unfold mCh at hm
  obtain ⟨⟨d1, S1⟩, e1, hm⟩ := Option.bind_eq_some_iff.mp hm
  obtain ⟨⟨d2, S2⟩, e2, hm⟩ := Option.bind_eq_some_iff.mp hm
  dsimp only at hm e2
  refine ⟨W, en, S, d1, S1, hE, hS, e1, fun v1 W1 H1 st1 r1 s1 => ⟨W1, en, S1, d2, S2, hE.mono st1, s1, e2, fun v2 W2 H2 st2 r2 s2 => ?_⟩⟩
  split at hm
  · rename_i ef
    refine cf H2 W2 _ v1 v2 d1 d2 _ _ (r1.mono st2) r2 s2 ef fun v3 W3 H3 st3 r3 s3 => ?_
    cases r3
    refine ⟨true, rfl, iteT ?_⟩
    obtain ⟨⟨d3, S3⟩, e3, hm⟩ := Option.bind_eq_some_iff.mp hm
    obtain ⟨d4, e4, hm⟩ := Option.map_eq_some_iff.mp hm
    cases hm
    have st := (st1.trans st2).trans st3
    refine ⟨W3, en, S2, d3, S3, hE.mono st, s3, e3, fun v4 W4 H4 st4 r4 s4 => ?_⟩
    exact cg H4 W4 _ v2 v4 d2 d3 _ Q ((r2.mono st3).mono st4) r4 s4 e4 fun v' W' H' st' rv sv => q v' W' H' ((st.trans st4).trans st') rv sv
  · rename_i ef
    cases hm
    refine cf H2 W2 _ v1 v2 d1 d2 _ _ (r1.mono st2) r2 s2 ef fun v3 W3 H3 st3 r3 s3 => ?_
    cases r3
    exact ⟨false, rfl, iteF (q _ W3 H3 ((st1.trans st2).trans st3) (.bl false) s3)⟩
  · cases hm
end
end MM
set_option maxRecDepth 100000
set_option maxHeartbeats 2000000
namespace MM
open PySem PySem.Spec PyProof.Rows L2
variable [TB : Tabl]
/-! ### tests -/
def truD (S : Store) (d : D) : Option Bool := match d with
  | .non => some false
  | .bl b => some b
  | .int i => some (i != 0)
  | .str x => if x.length ≤ 4000 then some ((x.length : Int) != 0) else none
  | d => (seqOf S d).map fun xs => !xs.isEmpty
section
variable {K : PySem.W.Frag} {mg : Str → Option Value}
theorem Reps.isEmpty {H : Hp} {W : Wd} {vs : List V} {ds : List D} (r : Reps K mg H W vs ds) : vs.isEmpty = ds.isEmpty := by
  cases r <;> rfl
theorem truD_ok {H : Hp} {W : Wd} {S : Store} {v : V} {d : D} {b : Bool} (s : StoreOk K mg H W S) (r : Rep K mg H W v d) (h : truD S d = some b) : TruV K v H b := by
  unfold truD at h
  split at h
  · cases r; cases h; rfl
  · cases r; cases h; rfl
  · cases r; cases h; rfl
  · cases r
    split at h
    · rename_i hz
      cases h
      exact ⟨Nat.le_of_lt (line_big hz), rfl⟩
    · cases h
  · obtain ⟨xs, h1, h2⟩ := Option.map_eq_some_iff.mp h
    obtain ⟨a, vs, rfl, hq, r1⟩ := r.seqR s h1
    subst h2
    rcases hq with hq | hq
    · exact .inl ⟨vs, hq, by rw [r1.isEmpty]⟩
    · exact .inr (.inl ⟨vs, hq, by rw [r1.isEmpty]⟩)
end
def tB1 (m : M) : MT := fun e S => (m e S).bind fun x => match x.1 with
  | .bl b => some (b, x.2)
  | _ => none
def tTr (m : M) : MT := fun e S => (m e S).bind fun x => (truD x.2 x.1).map fun b => (b, x.2)
def tAn (t u : MT) : MT := fun e S => (t e S).bind fun x => if x.1 = true then u e x.2 else some (false, x.2)
def tOr' (t u : MT) : MT := fun e S => (t e S).bind fun x => if x.1 = true then some (true, x.2) else u e x.2
def tNo (t : MT) : MT := fun e S => (t e S).map fun x => (!x.1, x.2)
def mAnd (a b : M) : M := fun e S => (a e S).bind fun x => (truD x.2 x.1).bind fun k => if k = true then b e x.2 else some x
def mOr (a b : M) : M := fun e S => (a e S).bind fun x => (truD x.2 x.1).bind fun k => if k = true then some x else b e x.2
def mNot (a : M) : M := fun e S => (a e S).bind fun x => (truD x.2 x.1).map fun k => (.bl (!k), x.2)
def mIf (t : MT) (a b : M) : M := fun e S => (t e S).bind fun x => if x.1 = true then a e x.2 else b e x.2
section
variable {X : Cx} {a b c : Expr} {rest : List Expr} {pos : Pos} {ma mb : M} {ta tb : MT}
theorem st_val (h : SE X a ma) (he : ∀ whole, isTrue a X.env whole = (do let v ← whole; standAt a.pos; holding [v] (truthy v)) := by intro _; rfl) : ST X a (tB1 ma) := pt_imp (pt_val h he) fun σ H Q ⟨W, en, S, d, S', hE, hS, hm, q⟩ => by
  unfold tB1 at hm
  obtain ⟨⟨d1, S1⟩, e1, hm⟩ := Option.bind_eq_some_iff.mp hm
  dsimp only at hm
  split at hm
  · cases hm
    refine ⟨W, en, S, _, _, hE, hS, e1, fun v W' H' st r s => ?_⟩
    cases r
    exact ⟨_, rfl, q W' H' st s⟩
  · cases hm
theorem st_tru (h : SE X a ma) (he : ∀ whole, isTrue a X.env whole = (do let v ← whole; standAt a.pos; holding [v] (truthy v)) := by intro _; rfl) : ST X a (tTr ma) := pt_imp (pt_truth h he) fun σ H Q ⟨W, en, S, d, S', hE, hS, hm, q⟩ => by
  unfold tTr at hm
  obtain ⟨⟨d1, S1⟩, e1, hm⟩ := Option.bind_eq_some_iff.mp hm
  obtain ⟨k, e2, hm⟩ := Option.map_eq_some_iff.mp hm
  cases hm
  exact ⟨W, en, S, _, _, hE, hS, e1, fun v W' H' st r s => ⟨_, truD_ok s r e2, q W' H' st s⟩⟩
theorem st_sw (h : SW X a ta) : ST X a ta := PW.pt h
theorem sw_and1 (h : ST X a ta) : SW X (.BoolOp .And [a] pos) ta := pw_and1 h
theorem sw_or1 (h : ST X a ta) : SW X (.BoolOp .Or [a] pos) ta := pw_or1 h
theorem sw_and (h : ST X a ta) (h2 : SW X (.BoolOp .And (b :: rest) pos) tb) : SW X (.BoolOp .And (a :: b :: rest) pos) (tAn ta tb) := pw_imp (pw_and h h2) fun σ H Q ⟨W, en, S, d, S', hE, hS, hm, q⟩ => by
  unfold tAn at hm
  obtain ⟨⟨d1, S1⟩, e1, hm⟩ := Option.bind_eq_some_iff.mp hm
  refine ⟨W, en, S, _, _, hE, hS, e1, fun W' H' st s => ?_⟩
  cases d1 with
  | true => exact iteT ⟨W', en, S1, d, S', hE.mono st, s, by simpa using hm, fun W2 H2 st2 s2 => q W2 H2 (st.trans st2) s2⟩
  | false =>
    have hm : some (false, S1) = some (d, S') := by simpa using hm
    cases hm
    exact iteF (q W' H' st s)
theorem sw_or (h : ST X a ta) (h2 : SW X (.BoolOp .Or (b :: rest) pos) tb) : SW X (.BoolOp .Or (a :: b :: rest) pos) (tOr' ta tb) := pw_imp (pw_or h h2) fun σ H Q ⟨W, en, S, d, S', hE, hS, hm, q⟩ => by
  unfold tOr' at hm
  obtain ⟨⟨d1, S1⟩, e1, hm⟩ := Option.bind_eq_some_iff.mp hm
  refine ⟨W, en, S, _, _, hE, hS, e1, fun W' H' st s => ?_⟩
  cases d1 with
  | false => exact iteF ⟨W', en, S1, d, S', hE.mono st, s, by simpa using hm, fun W2 H2 st2 s2 => q W2 H2 (st.trans st2) s2⟩
  | true =>
    have hm : some (true, S1) = some (d, S') := by simpa using hm
    cases hm
    exact iteT (q W' H' st s)
theorem st_not (h : ST X a ta) : ST X (.UnaryOp .Not a pos) (tNo ta) := pt_imp (pt_not h) fun σ H Q ⟨W, en, S, d, S', hE, hS, hm, q⟩ => by
  unfold tNo at hm
  obtain ⟨⟨d1, S1⟩, e1, hm⟩ := Option.map_eq_some_iff.mp hm
  cases hm
  exact ⟨W, en, S, _, _, hE, hS, e1, fun W' H' st s => q W' H' st s⟩
theorem se_one {op : BoolOp} (h : SE X a ma) : SE X (.BoolOp op [a] pos) ma := pe_one h
theorem se_and (h : SE X a ma) (h2 : SE X (.BoolOp .And (b :: rest) pos) mb) : SE X (.BoolOp .And (a :: b :: rest) pos) (mAnd ma mb) := pe_imp (pe_andT h h2) fun σ H Q ⟨W, en, S, d, S', hE, hS, hm, q⟩ => by
  unfold mAnd at hm
  obtain ⟨⟨d1, S1⟩, e1, hm⟩ := Option.bind_eq_some_iff.mp hm
  obtain ⟨k, e2, hm⟩ := Option.bind_eq_some_iff.mp hm
  refine ⟨W, en, S, _, _, hE, hS, e1, fun v W' H' st r s => ⟨k, truD_ok s r e2, ?_⟩⟩
  cases k with
  | true => exact iteT ⟨W', en, S1, d, S', hE.mono st, s, by simpa using hm, fun v2 W2 H2 st2 r2 s2 => q v2 W2 H2 (st.trans st2) r2 s2⟩
  | false =>
    have hm : some (d1, S1) = some (d, S') := by simpa using hm
    cases hm
    exact iteF (q v W' H' st r s)
theorem se_or (h : SE X a ma) (h2 : SE X (.BoolOp .Or (b :: rest) pos) mb) : SE X (.BoolOp .Or (a :: b :: rest) pos) (mOr ma mb) := pe_imp (pe_orT h h2) fun σ H Q ⟨W, en, S, d, S', hE, hS, hm, q⟩ => by
  unfold mOr at hm
  obtain ⟨⟨d1, S1⟩, e1, hm⟩ := Option.bind_eq_some_iff.mp hm
  obtain ⟨k, e2, hm⟩ := Option.bind_eq_some_iff.mp hm
  refine ⟨W, en, S, _, _, hE, hS, e1, fun v W' H' st r s => ⟨k, truD_ok s r e2, ?_⟩⟩
  cases k with
  | false => exact iteF ⟨W', en, S1, d, S', hE.mono st, s, by simpa using hm, fun v2 W2 H2 st2 r2 s2 => q v2 W2 H2 (st.trans st2) r2 s2⟩
  | true =>
    have hm : some (d1, S1) = some (d, S') := by simpa using hm
    cases hm
    exact iteT (q v W' H' st r s)
theorem se_not (h : SE X a ma) : SE X (.UnaryOp .Not a pos) (mNot ma) := pe_imp (pe_notT h) fun σ H Q ⟨W, en, S, d, S', hE, hS, hm, q⟩ => by
  unfold mNot at hm
  obtain ⟨⟨d1, S1⟩, e1, hm⟩ := Option.bind_eq_some_iff.mp hm
  obtain ⟨k, e2, hm⟩ := Option.map_eq_some_iff.mp hm
  cases hm
  exact ⟨W, en, S, _, _, hE, hS, e1, fun v W' H' st r s => ⟨k, truD_ok s r e2, q _ W' H' st (.bl _) s⟩⟩
theorem se_if (hc : ST X c ta) (ha : SE X a ma) (hb : SE X b mb) : SE X (.IfExp c a b pos) (mIf ta ma mb) := pe_imp (pe_ifExp hc ha hb) fun σ H Q ⟨W, en, S, d, S', hE, hS, hm, q⟩ => by
  unfold mIf at hm
  obtain ⟨⟨d1, S1⟩, e1, hm⟩ := Option.bind_eq_some_iff.mp hm
  refine ⟨W, en, S, _, _, hE, hS, e1, fun W' H' st s => ?_⟩
  cases d1 with
  | true => exact iteT ⟨W', en, S1, d, S', hE.mono st, s, by simpa using hm, fun v2 W2 H2 st2 r2 s2 => q v2 W2 H2 (st.trans st2) r2 s2⟩
  | false => exact iteF ⟨W', en, S1, d, S', hE.mono st, s, by simpa using hm, fun v2 W2 H2 st2 r2 s2 => q v2 W2 H2 (st.trans st2) r2 s2⟩
end
/-! ### rows of expressions -/
def aNil : MA := fun _ S => some ([], S)
def aCons (a : M) (as : MA) : MA := fun e S => (a e S).bind fun x => (as e x.2).map fun y => (x.1 :: y.1, y.2)
def mTup (as : MA) : M := fun e S => (as e S).bind fun x => if x.1.length ≤ 4000 then some (.tup x.1, x.2) else none
def mLst (as : MA) : M := fun e S => (as e S).bind fun x => if x.1.length ≤ 4000 then some (.lst x.1, x.2) else none
section
variable {X : Cx} {a : Expr} {es : List Expr} {pos : Pos} {ma : M} {as : MA}
theorem sa_nil : SA X [] aNil := pa_imp pa_nil fun σ H Q ⟨W, en, S, d, S', hE, hS, hm, q⟩ => by
  cases hm
  exact q [] W H .refl .nil hS
theorem sa_cons (ha : SE X a ma) (hr : SA X es as) (hs : starEach (a :: es) X.env = (false, eval a X.env) :: starEach es X.env := by rfl) : SA X (a :: es) (aCons ma as) := pa_imp (pa_cons ha hr hs) fun σ H Q ⟨W, en, S, d, S', hE, hS, hm, q⟩ => by
  unfold aCons at hm
  obtain ⟨⟨d1, S1⟩, e1, hm⟩ := Option.bind_eq_some_iff.mp hm
  obtain ⟨⟨d2, S2⟩, e2, hm⟩ := Option.map_eq_some_iff.mp hm
  cases hm
  exact ⟨W, en, S, d1, S1, hE, hS, e1, fun v W1 H1 st1 r1 s1 => ⟨W1, en, S1, d2, _, hE.mono st1, s1, e2, fun vs W2 H2 st2 r2 s2 => q _ W2 H2 (st1.trans st2) (.cons (r1.mono st2) r2) s2⟩⟩
theorem se_tup {x1} (h : SA X es as) : SE X (.Tuple es x1 pos) (mTup as) := pe_imp (pe_tup h) fun σ H Q ⟨W, en, S, d, S', hE, hS, hm, q⟩ => by
  unfold mTup at hm
  obtain ⟨⟨d1, S1⟩, e1, hm⟩ := Option.bind_eq_some_iff.mp hm
  dsimp only at hm
  split at hm
  · rename_i hz
    cases hm
    exact ⟨W, en, S, d1, _, hE, hS, e1, fun vs W1 H1 st1 r1 s1 => ⟨by rw [r1.length]; exact Nat.le_of_lt (line_big hz), new_tup s1 r1 fun v W2 H2 st2 r2 s2 => q v W2 H2 (st1.trans st2) r2 s2⟩⟩
  · cases hm
theorem sc_lst (h : SA X es as) : SC X (.List es pos) (mLst as) := pe_imp (pe_lst h) fun σ H Q ⟨W, en, S, d, S', hE, hS, hm, q⟩ => by
  unfold mLst at hm
  obtain ⟨⟨d1, S1⟩, e1, hm⟩ := Option.bind_eq_some_iff.mp hm
  dsimp only at hm
  split at hm
  · rename_i hz
    cases hm
    exact ⟨W, en, S, d1, _, hE, hS, e1, fun vs W1 H1 st1 r1 s1 => ⟨by rw [r1.length]; exact Nat.le_of_lt (line_big hz), new_list s1 r1 fun p H2 st2 hp nx hh hs => q p W1 H2 (st1.trans st2) (st1.free hp) (s1.nw hp) nx hh hs⟩⟩
  · cases hm
end
/-! ### items, slices -/
def fIx : F2 := fun S x y => match y with
  | .int i => match x with
    | .str z => if z.length ≤ 4000 then (atI z.cps.toList i).map fun c => .str ⟨#[c]⟩ else none
    | x => (seqOf S x).bind fun xs => atI xs i
  | _ => none
def cutD (xs : List D) (lo hi : Option Int) : List D := (xs.drop (HT.sIx xs.length 0 lo)).take (HT.sIx xs.length xs.length hi - HT.sIx xs.length 0 lo)
abbrev F3 := Store → D → Option Int → Option Int → Option D
def fSl : F3 := fun S x lo hi => match x with
  | .str z => if z.length ≤ 4000 then some (.str (cutS z lo hi)) else none
  | .tup xs => some (.tup (cutD xs lo hi))
  | x => (seqOf S x).map fun xs => .lst (cutD xs lo hi)
def fSlL : F3 := fun S x lo hi => match x with
  | .str _ => none
  | .tup _ => none
  | x => (seqOf S x).map fun xs => .lst (cutD xs lo hi)
section
variable {K : PySem.W.Frag} {mg : Str → Option Value}
theorem Reps.atI {H : Hp} {W : Wd} {vs : List V} {ds : List D} {i : Int} {d : D} (r : Reps K mg H W vs ds) (h : L2.atI ds i = some d) : ∃ v, L2.atI vs i = some v ∧ Rep K mg H W v d := by
  unfold L2.atI at h ⊢
  obtain ⟨j, h1, h2⟩ := Option.bind_eq_some_iff.mp h
  obtain ⟨v, h3, h4⟩ := r.get h2
  exact ⟨v, by rw [r.length, h1]; exact h3, h4⟩
theorem cov_ix : Cov2 K mg (rIx K) fIx := .here fun H W S v u d c d' Q rv ru s hf q => by
  unfold fIx at hf
  split at hf
  · cases ru
    split at hf
    · cases rv
      split at hf
      · rename_i hz
        obtain ⟨c, h1, h2⟩ := Option.map_eq_some_iff.mp hf
        subst h2
        exact .inr (.inr ⟨_, _, c, rfl, rfl, Nat.le_of_lt (line_big hz), h1, q _ (.str _)⟩)
      · cases hf
    · obtain ⟨xs, h1, h2⟩ := Option.bind_eq_some_iff.mp hf
      obtain ⟨a, vs, rfl, hq, r1⟩ := rv.seqR s h1
      obtain ⟨w, h3, h4⟩ := r1.atI h2
      rcases hq with hq | hq
      · exact .inl ⟨a, vs, _, w, rfl, rfl, hq, h3, q _ h4⟩
      · exact .inr (.inl ⟨a, vs, _, w, rfl, rfl, hq, h3, q _ h4⟩)
  · cases hf
theorem Reps.cut {H : Hp} {W : Wd} {vs : List V} {ds : List D} (r : Reps K mg H W vs ds) (lo hi : Option Int) : Reps K mg H W (cutV vs lo hi) (cutD ds lo hi) := by
  unfold cutV cutD
  rw [r.length]
  exact (r.drop _).take _
theorem cut_whole {xs : List V} {lo hi : Option Int} (h : HT.sIx xs.length 0 lo = 0 ∧ HT.sIx xs.length xs.length hi = xs.length) : cutV xs lo hi = xs := by
  unfold cutV
  rw [h.1, h.2]
  simp
theorem Rep.notTup {H : Hp} {W : Wd} {S : Store} {v : V} {d : D} {xs : List D} (r : Rep K mg H W v d) (s : StoreOk K mg H W S) (h : seqOf S d = some xs) (n : ∀ ys, d ≠ .tup ys) : ∃ a vs, v = .ref a ∧ SqL K H a vs ∧ Reps K mg H W vs xs := by
  cases r with
  | tup h1 r1 => exact absurd rfl (n _)
  | lst f h1 r1 => cases h; exact ⟨_, _, rfl, (.inl (.inl h1)), r1⟩
  | scr h1 r1 => cases h; exact ⟨_, _, rfl, h1.sq, r1⟩
  | @loc k a h1 =>
    unfold seqOf deref at h
    dsimp only at h
    split at h
    · rename_i ys hy
      cases h
      cases s.at_ _ _ _ h1 hy with
      | lst h2 r2 => exact ⟨_, _, rfl, (.inl (.inl h2)), r2⟩
    · rename_i ys hy
      cases s.at_ _ _ _ h1 hy
    · rename_i ys hy
      cases s.at_ _ _ _ h1 hy
    · cases h
  | _ => cases h
/-- what a slice rule serves -/
def Cov3 (K : PySem.W.Frag) (mg : Str → Option Value) (r : V → Option Int → Option Int → Hp → VK → Prop) (f : F3) : Prop := ∀ (H : Hp) (W : Wd) (S : Store) (v : V) (d d' : D) (lo hi : Option Int) (Q : VK), Rep K mg H W v d → StoreOk K mg H W S → f S d lo hi = some d' →
  (∀ v' W' H', Step W H W' H' → Rep K mg H' W' v' d' → StoreOk K mg H' W' S → Q v' H') → r v lo hi H Q
def Crv3 (K : PySem.W.Frag) (mg : Str → Option Value) (r : V → Option Int → Option Int → Hp → VK → Prop) (f : F3) : Prop := ∀ (H : Hp) (W : Wd) (S : Store) (v : V) (d d' : D) (lo hi : Option Int) (Q : VK), Rep K mg H W v d → StoreOk K mg H W S → f S d lo hi = some d' →
  (∀ p H', Step W H W H' → H p = none → p ∉ W.x → Holds K mg H' (W.push p) p d' → StoreOk K mg H' (W.push p) S → Q (.ref p) H') → r v lo hi H Q
theorem crv_slL : Crv3 K mg (rSlL K) fSlL := by
  intro H W S v d d' lo hi Q rv s hf q
  unfold fSlL at hf
  split at hf
  · cases hf
  · cases hf
  · rename_i n1 n2
    obtain ⟨xs, h1, h2⟩ := Option.map_eq_some_iff.mp hf
    subst h2
    obtain ⟨a, vs, rfl, hq, r1⟩ := rv.notTup s h1 n2
    exact ⟨a, vs, rfl, hq, new_list s (r1.cut lo hi) q⟩
theorem cov_sl : Cov3 K mg (fun x lo hi H Q => rSlL K x lo hi H Q ∨ (rSlA K x lo hi H Q ∨ rSlS x lo hi H Q)) fSl := by
  intro H W S v d d' lo hi Q rv s hf q
  unfold fSl at hf
  split at hf
  · cases rv
    split at hf
    · rename_i hz
      cases hf
      exact .inr (.inr ⟨_, rfl, Nat.le_of_lt (line_big hz), q _ W H .refl (.str _) s⟩)
    · cases hf
  · cases hf
    cases rv with
    | @tup a vs _ h1 r1 =>
      refine .inr (.inl ⟨a, vs, rfl, h1, fun hw => ?_, fun _ => new_tup s (r1.cut lo hi) q⟩)
      refine q _ W H .refl (.tup h1 ?_) s
      have := r1.cut lo hi
      rw [cut_whole hw] at this
      exact this
  · rename_i n1 n2
    obtain ⟨xs, h1, h2⟩ := Option.map_eq_some_iff.mp hf
    subst h2
    obtain ⟨a, vs, rfl, hq, r1⟩ := rv.notTup s h1 n2
    exact .inl ⟨a, vs, rfl, hq, new_list s (r1.cut lo hi) fun p H' st hp nx hh hs => q _ W H' st (hh.frz (s.nw hp) nx) hs.pop⟩
end
abbrev MO := MEnv → Store → Option (Option Int × Store)
def tPo (K : PySem.W.Frag) (mg : Str → Option Value) (m : MO) : TO := fun σ H Q => ∃ W e S d S', EnvOk K mg H W σ e ∧ StoreOk K mg H W S ∧ m e S = some (d, S') ∧
  ∀ W' H', Step W H W' H' → StoreOk K mg H' W' S' → Q d H'
abbrev SO (X : Cx) (e : Option Expr) (m : MO) : Prop := PO X e (tPo X.K X.mg m)
def oNo : MO := fun _ S => some (none, S)
def oSo (m : M) : MO := fun e S => (m e S).bind fun x => match x.1 with
  | .int i => some (some i, x.2)
  | _ => none
def mSl (f : F3) (a : M) (lo hi : MO) : M := fun e S => (a e S).bind fun x => (lo e x.2).bind fun y => (hi e y.2).bind fun z => (f z.2 x.1 y.1 z.1).map fun d => (d, z.2)
section
variable {X : Cx} {a : Expr} {lo hi : Option Expr} {pos p2 : Pos} {ma : M} {ml mh : MO}
theorem po_imp {e : Option Expr} {t t' : TO} (h : PO X e t) (i : ∀ σ H Q, t' σ H Q → t σ H Q) : PO X e t' := ⟨fun pins s σ H Q I q => h.run pins s σ H Q I (i _ _ _ q)⟩
theorem so_none : SO X none oNo := po_imp po_none fun σ H Q ⟨W, en, S, d, S', hE, hS, hm, q⟩ => by
  cases hm
  exact q W H .refl hS
theorem so_some (h : SE X a ma) : SO X (some a) (oSo ma) := po_imp (po_some h) fun σ H Q ⟨W, en, S, d, S', hE, hS, hm, q⟩ => by
  unfold oSo at hm
  obtain ⟨⟨d1, S1⟩, e1, hm⟩ := Option.bind_eq_some_iff.mp hm
  dsimp only at hm
  split at hm
  · cases hm
    refine ⟨W, en, S, _, _, hE, hS, e1, fun v W' H' st r s => ?_⟩
    cases r
    exact ⟨_, rfl, q W' H' st s⟩
  · cases hm
theorem mSl_eq {f : F3} {en : MEnv} {S S' : Store} {d : D} (h : mSl f ma ml mh en S = some (d, S')) : ∃ d1 S1 l S2 u, ma en S = some (d1, S1) ∧ ml en S1 = some (l, S2) ∧ mh en S2 = some (u, S') ∧ f S' d1 l u = some d := by
  unfold mSl at h
  obtain ⟨⟨d1, S1⟩, h1, h⟩ := Option.bind_eq_some_iff.mp h
  obtain ⟨⟨d2, S2⟩, h2, h⟩ := Option.bind_eq_some_iff.mp h
  obtain ⟨⟨d3, S3⟩, h3, h⟩ := Option.bind_eq_some_iff.mp h
  obtain ⟨d4, h4, h⟩ := Option.map_eq_some_iff.mp h
  cases h
  exact ⟨d1, S1, d2, S2, d3, h1, h2, h3, h4⟩
theorem se_sl (ha : SE X a ma) (hl : SO X lo ml) (hh : SO X hi mh) : SE X (.Subscript a (.Slice lo hi none p2) pos) (mSl fSl ma ml mh) := pe_imp (pe_slice (sl_list.or (sl_tupA.or sl_str)) ha hl hh) fun σ H Q ⟨W, en, S, d, S', hE, hS, hm, q⟩ => by
  obtain ⟨d1, S1, l, S2, u, h1, h2, h3, h4⟩ := mSl_eq hm
  refine ⟨W, en, S, d1, S1, hE, hS, h1, fun v1 W1 H1 st1 r1 s1 => ⟨W1, en, S1, l, S2, hE.mono st1, s1, h2, fun W2 H2 st2 s2 => ⟨W2, en, S2, u, S', hE.mono (st1.trans st2), s2, h3, fun W3 H3 st3 s3 => ?_⟩⟩⟩
  exact cov_sl H3 W3 S' v1 d1 d l u Q ((r1.mono st2).mono st3) s3 h4 fun v' W' H' st r' s' => q v' W' H' (((st1.trans st2).trans st3).trans st) r' s'
theorem sc_sl (ha : SE X a ma) (hl : SO X lo ml) (hh : SO X hi mh) : SC X (.Subscript a (.Slice lo hi none p2) pos) (mSl fSlL ma ml mh) := pe_imp (pe_slice sl_list ha hl hh) fun σ H Q ⟨W, en, S, d, S', hE, hS, hm, q⟩ => by
  obtain ⟨d1, S1, l, S2, u, h1, h2, h3, h4⟩ := mSl_eq hm
  refine ⟨W, en, S, d1, S1, hE, hS, h1, fun v1 W1 H1 st1 r1 s1 => ⟨W1, en, S1, l, S2, hE.mono st1, s1, h2, fun W2 H2 st2 s2 => ⟨W2, en, S2, u, S', hE.mono (st1.trans st2), s2, h3, fun W3 H3 st3 s3 => ?_⟩⟩⟩
  have st := (st1.trans st2).trans st3
  exact crv_slL H3 W3 S' v1 d1 d l u Q ((r1.mono st2).mono st3) s3 h4 fun p H' st' hp nx hh hs => q p W3 H' (st.trans st') (st.free hp) (s3.nw hp) nx hh hs
theorem se_item {b : Expr} {mb : M} (ha : SE X a ma) (hb : SE X b mb) (hs : PlainIx b := by exact fun _ _ => rfl) : SE X (.Subscript a b pos) (m2 fIx ma mb) := se_ix ix_seq cov_ix ha hb hs
end
end MM
set_option maxRecDepth 100000
set_option maxHeartbeats 2000000
namespace MM
open PySem PySem.Spec PyProof.Rows L2
variable [TB : Tabl]
/-! ### built-ins of one argument, of two -/
section
variable {X : Cx} {a b : Expr} {x : Str} {id T : String} {p pos : Pos} {ma mb : M} {r : List V → Hp → VK → Prop}
theorem se_b1 {f : F1} (hc : CallR X (.builtin id) r) (c : Cov1 X.K X.mg (fun x H Q => r [x] H Q) f) (hg : Gl X x) (hm : X.mg x = none) (hv : bootBuiltins x = some (.builtin id)) (ha : SE X a ma) (hn : x ≠ "__name__" := by decide) (hdb : (x == ("__debug__" : Str)) = false := by decide)
    (he : starEach [a] X.env = (false, eval a X.env) :: starEach [] X.env := by rfl) : SE X (.Call (.Name x p) [a] [] pos) (m1 f ma) :=
  pe_imp (pe_callB hc hg hm hv (pa_cons ha pa_nil he) hn hdb he rfl) fun _ _ _ h => one_ok c h
theorem sc_b1 {f : F1} (hc : CallR X (.builtin id) r) (c : Crv1 X.K X.mg (fun x H Q => r [x] H Q) f) (hg : Gl X x) (hm : X.mg x = none) (hv : bootBuiltins x = some (.builtin id)) (ha : SE X a ma) (hn : x ≠ "__name__" := by decide) (hdb : (x == ("__debug__" : Str)) = false := by decide)
    (he : starEach [a] X.env = (false, eval a X.env) :: starEach [] X.env := by rfl) : SC X (.Call (.Name x p) [a] [] pos) (m1 f ma) :=
  pe_imp (pe_callB hc hg hm hv (pa_cons ha pa_nil he) hn hdb he rfl) fun _ _ _ h => one_cr c h
theorem se_b2 {f : F2} (hc : CallR X (.builtin id) r) (c : Cov2 X.K X.mg (fun x y H Q => r [x, y] H Q) f) (hg : Gl X x) (hm : X.mg x = none) (hv : bootBuiltins x = some (.builtin id)) (ha : SE X a ma) (hb : SE X b mb) (hn : x ≠ "__name__" := by decide) (hdb : (x == ("__debug__" : Str)) = false := by decide)
    (he : starEach [a, b] X.env = (false, eval a X.env) :: starEach [b] X.env := by rfl) (he2 : starEach [b] X.env = (false, eval b X.env) :: starEach [] X.env := by rfl) (hpl : (backTo pos (starEach [b] X.env)).any (·.1) = false := by rfl) : SE X (.Call (.Name x p) [a, b] [] pos) (m2 f ma mb) :=
  pe_imp (pe_callB hc hg hm hv (pa_cons ha (pa_cons hb pa_nil he2) he) hn hdb he hpl) fun _ _ _ h => two_ok c h
theorem se_t1 {f : F1} (hc : CallR X (.type T) r) (c : Cov1 X.K X.mg (fun x H Q => r [x] H Q) f) (hg : Gl X x) (hm : X.mg x = none) (hv : bootBuiltins x = some (.type T)) (ha : SE X a ma) (hn : x ≠ "__name__" := by decide) (hdb : (x == ("__debug__" : Str)) = false := by decide)
    (he : starEach [a] X.env = (false, eval a X.env) :: starEach [] X.env := by rfl) : SE X (.Call (.Name x p) [a] [] pos) (m1 f ma) :=
  pe_imp (pe_callTy hc hg hm hv (pa_cons ha pa_nil he) hn hdb he rfl) fun _ _ _ h => one_ok c h
theorem sc_t1 {f : F1} (hc : CallR X (.type T) r) (c : Crv1 X.K X.mg (fun x H Q => r [x] H Q) f) (hg : Gl X x) (hm : X.mg x = none) (hv : bootBuiltins x = some (.type T)) (ha : SE X a ma) (hn : x ≠ "__name__" := by decide) (hdb : (x == ("__debug__" : Str)) = false := by decide)
    (he : starEach [a] X.env = (false, eval a X.env) :: starEach [] X.env := by rfl) : SC X (.Call (.Name x p) [a] [] pos) (m1 f ma) :=
  pe_imp (pe_callTy hc hg hm hv (pa_cons ha pa_nil he) hn hdb he rfl) fun _ _ _ h => one_cr c h
end
def fLen : F1 := fun S x => match x with
  | .str z => if z.length ≤ 4000 then some (.int z.length) else none
  | x => (seqOf S x).map fun xs => .int xs.length
def fTuple : F1 := fun S x => (seqOf S x).map .tup
def fList : F1 := fun S x => (seqOf S x).map .lst
def intD : D → Option Int
  | .int i => some i
  | _ => none
def blD : D → Option Bool
  | .bl i => some i
  | _ => none
def strD : D → Option Str
  | .str i => some i
  | _ => none
def lstOf (S : Store) (d : D) : Option (List D) := match deref S d with
  | some (.lst xs) => some xs
  | _ => none
def fAll : F1 := fun S x => (lstOf S x).bind fun xs => (xs.mapM blD).map fun bs => .bl (bs.all id)
def fAny : F1 := fun S x => (lstOf S x).bind fun xs => (xs.mapM blD).map fun bs => .bl (bs.any id)
def fSum : F1 := fun S x => (lstOf S x).bind fun xs => (xs.mapM intD).map fun bs => .int bs.sum
def maxI : List Int → Option Int
  | [] => none
  | x :: xs => some (xs.foldl (fun m y => if m < y then y else m) x)
def minI : List Int → Option Int
  | [] => none
  | x :: xs => some (xs.foldl (fun m y => if y < m then y else m) x)
def fMax : F1 := fun S x => (lstOf S x).bind fun xs => (xs.mapM intD).bind fun bs => (maxI bs).map .int
def fMin : F1 := fun S x => (lstOf S x).bind fun xs => (xs.mapM intD).bind fun bs => (minI bs).map .int
def fAbs : F1 := fun _ x => match x with
  | .int i => some (.int (if i < 0 then -i else i))
  | _ => none
def fInt : F1 := fun _ x => match x with
  | .int i => some (.int i)
  | .bl k => some (.int (if k then 1 else 0))
  | _ => none
def fMax2 : F2 := fun _ x y => match x, y with
  | .int i, .int j => some (.int (if j > i then j else i))
  | _, _ => none
def fMin2 : F2 := fun _ x y => match x, y with
  | .int i, .int j => some (.int (if j < i then j else i))
  | _, _ => none
def insI (x : Int) : List Int → List Int
  | [] => [x]
  | y :: ys => if x ≤ y then x :: y :: ys else y :: insI x ys
def sortI : List Int → List Int
  | [] => []
  | x :: xs => insI x (sortI xs)
def strLe (x y : Str) : Bool := !decide (y.cps.toList < x.cps.toList)
def insS (x : Str) : List Str → List Str
  | [] => [x]
  | y :: ys => if strLe x y then x :: y :: ys else y :: insS x ys
def sortS : List Str → List Str
  | [] => []
  | x :: xs => insS x (sortS xs)
theorem insI_perm (x : Int) : ∀ l : List Int, (insI x l).Perm (x :: l)
  | [] => .refl _
  | y :: ys => by
    unfold insI
    split
    · exact .refl _
    · exact ((insI_perm x ys).cons y).trans (.swap x y ys)
theorem sortI_perm : ∀ l : List Int, (sortI l).Perm l
  | [] => .refl _
  | x :: xs => (insI_perm x _).trans ((sortI_perm xs).cons x)
theorem insI_sorted {x : Int} : ∀ {l : List Int}, l.Pairwise (· ≤ ·) → (insI x l).Pairwise (· ≤ ·)
  | [], _ => by simp [insI]
  | y :: ys, h => by
    obtain ⟨h1, h2⟩ := List.pairwise_cons.mp h
    unfold insI
    split
    · rename_i hx
      exact List.pairwise_cons.mpr ⟨fun z hz => (List.mem_cons.mp hz).elim (fun e => e ▸ hx) fun hz => Int.le_trans hx (h1 z hz), h⟩
    · rename_i hx
      refine List.pairwise_cons.mpr ⟨fun z hz => ?_, insI_sorted h2⟩
      rcases List.mem_cons.mp ((insI_perm x ys).mem_iff.mp hz) with e | hz
      · omega
      · exact h1 z hz
theorem sortI_sorted : ∀ l : List Int, (sortI l).Pairwise (· ≤ ·)
  | [] => .nil
  | x :: xs => insI_sorted (sortI_sorted xs)
theorem sortI_eq {l m : List Int} (h : m.Perm l) (s : m.Pairwise (· ≤ ·)) : m = sortI l := PySem.W.ksm_same (h.trans (sortI_perm l).symm) s (sortI_sorted l)
theorem nlt_total (a b : List Nat) : ¬ a < b → ¬ b < a → a = b := fun h1 h2 => List.le_antisymm (List.not_lt.mp h2) (List.not_lt.mp h1)
theorem strLe_total (x y : Str) : strLe x y = true ∨ strLe y x = true := by
  unfold strLe
  by_cases h : y.cps.toList < x.cps.toList
  · right
    have : ¬ x.cps.toList < y.cps.toList := List.not_lt.mpr (List.le_of_lt h)
    simp [this]
  · left
    simp [h]
theorem strLe_trans {x y z : Str} (h1 : strLe x y = true) (h2 : strLe y z = true) : strLe x z = true := by
  unfold strLe at *
  simp only [Bool.not_eq_true', decide_eq_false_iff_not] at *
  exact List.not_lt.mpr (List.le_trans (List.not_lt.mp h1) (List.not_lt.mp h2))
theorem strLe_anti {x y : Str} (h1 : strLe x y = true) (h2 : strLe y x = true) : x = y := by
  unfold strLe at *
  simp only [Bool.not_eq_true', decide_eq_false_iff_not] at *
  have e := nlt_total _ _ h2 h1
  cases x with
  | mk cx =>
    cases y with
    | mk cy => exact congrArg Str.mk (Array.toList_inj.mp e)
theorem insS_perm (x : Str) : ∀ l : List Str, (insS x l).Perm (x :: l)
  | [] => .refl _
  | y :: ys => by
    unfold insS
    split
    · exact .refl _
    · exact ((insS_perm x ys).cons y).trans (.swap x y ys)
theorem sortS_perm : ∀ l : List Str, (sortS l).Perm l
  | [] => .refl _
  | x :: xs => (insS_perm x _).trans ((sortS_perm xs).cons x)
theorem insS_sorted {x : Str} : ∀ {l : List Str}, l.Pairwise (fun a b => strLe a b = true) → (insS x l).Pairwise (fun a b => strLe a b = true)
  | [], _ => by simp [insS]
  | y :: ys, h => by
    obtain ⟨h1, h2⟩ := List.pairwise_cons.mp h
    unfold insS
    split
    · rename_i hx
      exact List.pairwise_cons.mpr ⟨fun z hz => (List.mem_cons.mp hz).elim (fun e => e ▸ hx) fun hz => strLe_trans hx (h1 z hz), h⟩
    · rename_i hx
      refine List.pairwise_cons.mpr ⟨fun z hz => ?_, insS_sorted h2⟩
      rcases List.mem_cons.mp ((insS_perm x ys).mem_iff.mp hz) with e | hz
      · rw [e]; exact (strLe_total y x).resolve_right hx
      · exact h1 z hz
theorem sortS_sorted : ∀ l : List Str, (sortS l).Pairwise (fun a b => strLe a b = true)
  | [] => .nil
  | x :: xs => insS_sorted (sortS_sorted xs)
theorem risingS_pw : ∀ {l : List Str} {p : Str}, risingS p l = true → (p :: l).Pairwise (fun a b => strLe a b = true)
  | [], p, _ => by simp
  | x :: l, p, h => by
    unfold risingS at h
    obtain ⟨h1, h2⟩ := Bool.and_eq_true_iff.mp h
    have ih := risingS_pw h2
    have hpx : strLe p x = true := by
      unfold strLe
      rw [← ltCps_eq]; exact h1
    refine List.pairwise_cons.mpr ⟨fun z hz => ?_, ih⟩
    rcases List.mem_cons.mp hz with e | hz
    · rw [e]; exact hpx
    · exact strLe_trans hpx ((List.pairwise_cons.mp ih).1 z hz)
theorem sortedS_pw : ∀ {l : List Str}, sortedS l = true → l.Pairwise (fun a b => strLe a b = true)
  | [], _ => .nil
  | _ :: _, h => risingS_pw h
theorem sortS_eq {l m : List Str} (h : m.Perm l) (s : m.Pairwise (fun a b => strLe a b = true)) : m = sortS l :=
  (h.trans (sortS_perm l).symm).eq_of_pairwise (fun _ _ _ _ h1 h2 => strLe_anti h1 h2) s (sortS_sorted l)
def fSorted : F1 := fun S x => (lstOf S x).bind fun xs => if xs.length < 64 then match xs.mapM intD with
    | some ns => some (.lst ((sortI ns).map .int))
    | none => (xs.mapM strD).map fun ss => .lst ((sortS ss).map .str)
  else none
section
variable {K : PySem.W.Frag} {mg : Str → Option Value}
theorem Rep.lstS {H : Hp} {W : Wd} {S : Store} {v : V} {d : D} {xs : List D} (r : Rep K mg H W v d) (s : StoreOk K mg H W S) (h : lstOf S d = some xs) : ∃ a vs, v = .ref a ∧ SqL K H a vs ∧ Reps K mg H W vs xs := by
  unfold lstOf at h
  split at h
  · rename_i ys hy
    cases h
    obtain ⟨a, vs, e, h1, r1⟩ := r.lstR s hy
    exact ⟨a, vs, e, .inl (.inl h1), r1⟩
  · cases h
theorem ints_ok {H : Hp} {W : Wd} : ∀ {vs : List V} {ds : List D} {ns : List Int}, Reps K mg H W vs ds → ds.mapM intD = some ns → vs = ns.map .int
  | _, _, _, .nil, h => by simp at h; subst h; rfl
  | _, _, _, .cons r t, h => by
    rw [List.mapM_cons] at h
    obtain ⟨p1, h1, h⟩ := Option.bind_eq_some_iff.mp h
    obtain ⟨p2, h2, h⟩ := Option.bind_eq_some_iff.mp h
    cases h
    rw [ints_ok t h2]
    cases r <;> cases h1
    rfl
theorem strs_ok {H : Hp} {W : Wd} : ∀ {vs : List V} {ds : List D} {ns : List Str}, Reps K mg H W vs ds → ds.mapM strD = some ns → vs = ns.map .str
  | _, _, _, .nil, h => by simp at h; subst h; rfl
  | _, _, _, .cons r t, h => by
    rw [List.mapM_cons] at h
    obtain ⟨p1, h1, h⟩ := Option.bind_eq_some_iff.mp h
    obtain ⟨p2, h2, h⟩ := Option.bind_eq_some_iff.mp h
    cases h
    rw [strs_ok t h2]
    cases r <;> cases h1
    rfl
theorem bls_ok {H : Hp} {W : Wd} : ∀ {vs : List V} {ds : List D} {ns : List Bool}, Reps K mg H W vs ds → ds.mapM blD = some ns → vs = ns.map .bl
  | _, _, _, .nil, h => by simp at h; subst h; rfl
  | _, _, _, .cons r t, h => by
    rw [List.mapM_cons] at h
    obtain ⟨p1, h1, h⟩ := Option.bind_eq_some_iff.mp h
    obtain ⟨p2, h2, h⟩ := Option.bind_eq_some_iff.mp h
    cases h
    rw [bls_ok t h2]
    cases r <;> cases h1
    rfl
theorem Reps.ints {H : Hp} {W : Wd} : ∀ ns : List Int, Reps K mg H W (ns.map .int) (ns.map .int)
  | [] => .nil
  | n :: ns => .cons (.int n) (Reps.ints ns)
theorem Reps.strs {H : Hp} {W : Wd} : ∀ ns : List Str, Reps K mg H W (ns.map .str) (ns.map .str)
  | [] => .nil
  | n :: ns => .cons (.str n) (Reps.strs ns)
theorem cov_len : Cov1 K mg (fun x H Q => ∃ y n, [x] = [y] ∧ LenV K y H n ∧ Q (.int n) H) fLen := .here fun H W S v d d' Q rv s hf q => by
  unfold fLen at hf
  split at hf
  · cases rv
    split at hf
    · rename_i hz
      cases hf
      exact ⟨_, _, rfl, ⟨Nat.le_of_lt (line_big hz), rfl⟩, q _ (.int _)⟩
    · cases hf
  · obtain ⟨xs, h1, h2⟩ := Option.map_eq_some_iff.mp hf
    obtain ⟨a, vs, rfl, hq, r1⟩ := rv.seqR s h1
    subst h2
    rw [← r1.length] at q
    exact ⟨_, _, rfl, hq.imp (fun h => ⟨vs, h, rfl⟩) (fun h => ⟨vs, h, rfl⟩), q _ (.int _)⟩
theorem cov_tuple : Cov1 K mg (fun x H Q => ∃ p ys, [x] = [.ref p] ∧ ((SqL K H p ys ∧ ∀ l, H l = none → Q (.ref l) (upd H l (.tup ys))) ∨ (SqT K H p ys ∧ Q (.ref p) H))) fTuple := by
  intro H W S v d d' Q rv s hf q
  obtain ⟨xs, h1, h2⟩ := Option.map_eq_some_iff.mp hf
  obtain ⟨a, vs, rfl, hq, r1⟩ := rv.seqR s h1
  subst h2
  refine ⟨a, vs, rfl, hq.imp (fun h => ⟨h, new_tup s r1 q⟩) fun h => ⟨h, q _ W H .refl (.tup h r1) s⟩⟩
theorem crv_list : Crv1 K mg (fun x H Q => ∃ p ys, [x] = [.ref p] ∧ (SqL K H p ys ∨ SqT K H p ys) ∧ ∀ l, H l = none → Q (.ref l) (upd H l (.lst ys))) fList := by
  intro H W S v d d' Q rv s hf q
  obtain ⟨xs, h1, h2⟩ := Option.map_eq_some_iff.mp hf
  obtain ⟨a, vs, rfl, hq, r1⟩ := rv.seqR s h1
  subst h2
  exact ⟨a, vs, rfl, hq, new_list s r1 q⟩
theorem cov_all : Cov1 K mg (fun x H Q => rAll K [x] H Q) fAll := .here fun H W S v d d' Q rv s hf q => by
  obtain ⟨xs, h1, hf⟩ := Option.bind_eq_some_iff.mp hf
  obtain ⟨bs, h2, hf⟩ := Option.map_eq_some_iff.mp hf
  obtain ⟨a, vs, rfl, hq, r1⟩ := rv.lstS s h1
  subst hf
  rw [bls_ok r1 h2] at hq
  exact ⟨a, bs, rfl, hq, q _ (.bl _)⟩
theorem cov_any : Cov1 K mg (fun x H Q => rAny K [x] H Q) fAny := .here fun H W S v d d' Q rv s hf q => by
  obtain ⟨xs, h1, hf⟩ := Option.bind_eq_some_iff.mp hf
  obtain ⟨bs, h2, hf⟩ := Option.map_eq_some_iff.mp hf
  obtain ⟨a, vs, rfl, hq, r1⟩ := rv.lstS s h1
  subst hf
  rw [bls_ok r1 h2] at hq
  exact ⟨a, bs, rfl, hq, q _ (.bl _)⟩
theorem cov_sum : Cov1 K mg (fun x H Q => rSum K [x] H Q) fSum := .here fun H W S v d d' Q rv s hf q => by
  obtain ⟨xs, h1, hf⟩ := Option.bind_eq_some_iff.mp hf
  obtain ⟨bs, h2, hf⟩ := Option.map_eq_some_iff.mp hf
  obtain ⟨a, vs, rfl, hq, r1⟩ := rv.lstS s h1
  subst hf
  rw [ints_ok r1 h2] at hq
  exact ⟨a, bs, rfl, hq, q _ (.int _)⟩
theorem foldl_max (xs : List Int) : ∀ (x m : Int), m ∈ x :: xs → (∀ y ∈ x :: xs, y ≤ m) → xs.foldl (fun m y => if m < y then y else m) x = m := by
  induction xs with
  | nil => intro x m h _; simp at h; simp [h]
  | cons z xs ih =>
    intro x m h1 h2
    rw [List.foldl_cons]
    refine ih _ m ?_ fun y hy => ?_
    · have h3 := h2 x (by simp)
      have h4 := h2 z (by simp)
      simp only [List.mem_cons] at h1 ⊢
      split
      · rcases h1 with h1 | h1 | h1
        · omega
        · exact .inl h1
        · exact .inr h1
      · rcases h1 with h1 | h1 | h1
        · exact .inl h1
        · left; omega
        · exact .inr h1
    · rcases List.mem_cons.mp hy with e | hy
      · rw [e]; split
        · exact h2 z (by simp)
        · exact h2 x (by simp)
      · exact h2 y (by simp [hy])
theorem foldl_min (xs : List Int) : ∀ (x m : Int), m ∈ x :: xs → (∀ y ∈ x :: xs, m ≤ y) → xs.foldl (fun m y => if y < m then y else m) x = m := by
  induction xs with
  | nil => intro x m h _; simp at h; simp [h]
  | cons z xs ih =>
    intro x m h1 h2
    rw [List.foldl_cons]
    refine ih _ m ?_ fun y hy => ?_
    · have h3 := h2 x (by simp)
      have h4 := h2 z (by simp)
      simp only [List.mem_cons] at h1 ⊢
      split
      · rcases h1 with h1 | h1 | h1
        · omega
        · exact .inl h1
        · exact .inr h1
      · rcases h1 with h1 | h1 | h1
        · exact .inl h1
        · left; omega
        · exact .inr h1
    · rcases List.mem_cons.mp hy with e | hy
      · rw [e]; split
        · exact h2 z (by simp)
        · exact h2 x (by simp)
      · exact h2 y (by simp [hy])
theorem cov_max : Cov1 K mg (fun x H Q => rMax K [x] H Q) fMax := .here fun H W S v d d' Q rv s hf q => by
  obtain ⟨xs, h1, hf⟩ := Option.bind_eq_some_iff.mp hf
  obtain ⟨bs, h2, hf⟩ := Option.bind_eq_some_iff.mp hf
  obtain ⟨m, h3, hf⟩ := Option.map_eq_some_iff.mp hf
  obtain ⟨a, vs, rfl, hq, r1⟩ := rv.lstS s h1
  subst hf
  rw [ints_ok r1 h2] at hq
  cases bs with
  | nil => cases h3
  | cons y ys =>
    cases h3
    exact ⟨a, y :: ys, rfl, hq, by simp, fun m h4 h5 => by rw [foldl_max ys y m h4 h5] at q; exact q _ (.int _)⟩
theorem cov_min : Cov1 K mg (fun x H Q => rMin K [x] H Q) fMin := .here fun H W S v d d' Q rv s hf q => by
  obtain ⟨xs, h1, hf⟩ := Option.bind_eq_some_iff.mp hf
  obtain ⟨bs, h2, hf⟩ := Option.bind_eq_some_iff.mp hf
  obtain ⟨m, h3, hf⟩ := Option.map_eq_some_iff.mp hf
  obtain ⟨a, vs, rfl, hq, r1⟩ := rv.lstS s h1
  subst hf
  rw [ints_ok r1 h2] at hq
  cases bs with
  | nil => cases h3
  | cons y ys =>
    cases h3
    exact ⟨a, y :: ys, rfl, hq, by simp, fun m h4 h5 => by rw [foldl_min ys y m h4 h5] at q; exact q _ (.int _)⟩
theorem cov_abs : Cov1 K mg (fun x H Q => ∃ i, [x] = [.int i] ∧ Q (.int (if i < 0 then -i else i)) H) fAbs := .here fun H W S v d d' Q rv s hf q => by
  unfold fAbs at hf
  split at hf
  · cases rv; cases hf; exact ⟨_, rfl, q _ (.int _)⟩
  · cases hf
theorem cov_int : Cov1 K mg (fun x H Q => (∃ i, [x] = [.int i] ∧ Q (.int i) H) ∨ ∃ k, [x] = [.bl k] ∧ Q (.int (if k then 1 else 0)) H) fInt := .here fun H W S v d d' Q rv s hf q => by
  unfold fInt at hf
  split at hf
  · cases rv; cases hf; exact .inl ⟨_, rfl, q _ (.int _)⟩
  · cases rv; cases hf; exact .inr ⟨_, rfl, q _ (.int _)⟩
  · cases hf
theorem cov_max2 : Cov2 K mg (fun x y H Q => ∃ i j, [x, y] = [.int i, .int j] ∧ Q (.int (if j > i then j else i)) H) fMax2 := .here fun H W S v u d c d' Q rv ru s hf q => by
  unfold fMax2 at hf
  split at hf
  · cases rv; cases ru; cases hf; exact ⟨_, _, rfl, q _ (.int _)⟩
  · cases hf
theorem cov_min2 : Cov2 K mg (fun x y H Q => ∃ i j, [x, y] = [.int i, .int j] ∧ Q (.int (if j < i then j else i)) H) fMin2 := .here fun H W S v u d c d' Q rv ru s hf q => by
  unfold fMin2 at hf
  split at hf
  · cases rv; cases ru; cases hf; exact ⟨_, _, rfl, q _ (.int _)⟩
  · cases hf
theorem crv_sorted : Crv1 K mg (fun x H Q => rSorted K [x] H Q ∨ rSortedS K [x] H Q) fSorted := by
  intro H W S v d d' Q rv s hf q
  obtain ⟨xs, h1, hf⟩ := Option.bind_eq_some_iff.mp hf
  obtain ⟨a, vs, rfl, hq, r1⟩ := rv.lstS s h1
  split at hf
  · rename_i hz
    split at hf
    · rename_i ns hn
      cases hf
      have e := r1.length
      rw [ints_ok r1 hn] at hq e
      refine .inl ⟨a, ns, rfl, hq, by rw [List.length_map] at e; omega, fun ns' p hp hs hnew => ?_⟩
      rw [sortI_eq hp hs]
      exact new_list s (Reps.ints _) q p hnew
    · obtain ⟨ss, h3, hf⟩ := Option.map_eq_some_iff.mp hf
      subst hf
      have e := r1.length
      rw [strs_ok r1 h3] at hq e
      refine .inr ⟨a, ss, rfl, hq, by rw [List.length_map] at e; omega, fun ns' p hp hs hnew => ?_⟩
      rw [sortS_eq hp (sortedS_pw hs)]
      exact new_list s (Reps.strs _) q p hnew
  · cases hf
end
section
variable {X : Cx} {a b : Expr} {p pos : Pos} {ma mb : M}
theorem se_len (hg : Gl X "len") (hm : X.mg "len" = none) (ha : SE X a ma) (he : starEach [a] X.env = (false, eval a X.env) :: starEach [] X.env := by rfl) : SE X (.Call (.Name "len" p) [a] [] pos) (m1 fLen ma) := se_b1 call_len cov_len hg hm (by decide +kernel) ha (he := he)
theorem se_tuple (hg : Gl X "tuple") (hm : X.mg "tuple" = none) (ha : SE X a ma) (he : starEach [a] X.env = (false, eval a X.env) :: starEach [] X.env := by rfl) : SE X (.Call (.Name "tuple" p) [a] [] pos) (m1 fTuple ma) := se_t1 call_tuple_of cov_tuple hg hm (by decide +kernel) ha (he := he)
theorem sc_list (hg : Gl X "list") (hm : X.mg "list" = none) (ha : SE X a ma) (he : starEach [a] X.env = (false, eval a X.env) :: starEach [] X.env := by rfl) : SC X (.Call (.Name "list" p) [a] [] pos) (m1 fList ma) := sc_t1 call_list_of crv_list hg hm (by decide +kernel) ha (he := he)
theorem se_all (hc : X.calm = true) (hg : Gl X "all") (hm : X.mg "all" = none) (ha : SE X a ma) (he : starEach [a] X.env = (false, eval a X.env) :: starEach [] X.env := by rfl) : SE X (.Call (.Name "all" p) [a] [] pos) (m1 fAll ma) := se_b1 (cr_all hc) cov_all hg hm (by decide +kernel) ha (he := he)
theorem se_any (hc : X.calm = true) (hg : Gl X "any") (hm : X.mg "any" = none) (ha : SE X a ma) (he : starEach [a] X.env = (false, eval a X.env) :: starEach [] X.env := by rfl) : SE X (.Call (.Name "any" p) [a] [] pos) (m1 fAny ma) := se_b1 (cr_any hc) cov_any hg hm (by decide +kernel) ha (he := he)
theorem se_sum (hc : X.calm = true) (hg : Gl X "sum") (hm : X.mg "sum" = none) (ha : SE X a ma) (he : starEach [a] X.env = (false, eval a X.env) :: starEach [] X.env := by rfl) : SE X (.Call (.Name "sum" p) [a] [] pos) (m1 fSum ma) := se_b1 (cr_sum hc) cov_sum hg hm (by decide +kernel) ha (he := he)
theorem se_max (hc : X.calm = true) (hg : Gl X "max") (hm : X.mg "max" = none) (ha : SE X a ma) (he : starEach [a] X.env = (false, eval a X.env) :: starEach [] X.env := by rfl) : SE X (.Call (.Name "max" p) [a] [] pos) (m1 fMax ma) := se_b1 (cr_max hc) cov_max hg hm (by decide +kernel) ha (he := he)
theorem se_min (hc : X.calm = true) (hg : Gl X "min") (hm : X.mg "min" = none) (ha : SE X a ma) (he : starEach [a] X.env = (false, eval a X.env) :: starEach [] X.env := by rfl) : SE X (.Call (.Name "min" p) [a] [] pos) (m1 fMin ma) := se_b1 (cr_min hc) cov_min hg hm (by decide +kernel) ha (he := he)
theorem se_abs (hg : Gl X "abs") (hm : X.mg "abs" = none) (ha : SE X a ma) (he : starEach [a] X.env = (false, eval a X.env) :: starEach [] X.env := by rfl) : SE X (.Call (.Name "abs" p) [a] [] pos) (m1 fAbs ma) := se_b1 call_abs cov_abs hg hm (by decide +kernel) ha (he := he)
theorem se_intf (hg : Gl X "int") (hm : X.mg "int" = none) (ha : SE X a ma) (he : starEach [a] X.env = (false, eval a X.env) :: starEach [] X.env := by rfl) : SE X (.Call (.Name "int" p) [a] [] pos) (m1 fInt ma) := se_t1 call_int1 cov_int hg hm (by decide +kernel) ha (he := he)
theorem se_max2 (hc : X.calm = true) (hg : Gl X "max") (hm : X.mg "max" = none) (ha : SE X a ma) (hb : SE X b mb) (he : starEach [a, b] X.env = (false, eval a X.env) :: starEach [b] X.env := by rfl) (he2 : starEach [b] X.env = (false, eval b X.env) :: starEach [] X.env := by rfl) (hpl : (backTo pos (starEach [b] X.env)).any (·.1) = false := by rfl) : SE X (.Call (.Name "max" p) [a, b] [] pos) (m2 fMax2 ma mb) := se_b2 (call_max2 hc) cov_max2 hg hm (by decide +kernel) ha hb (he := he) (he2 := he2) (hpl := hpl)
theorem se_min2 (hc : X.calm = true) (hg : Gl X "min") (hm : X.mg "min" = none) (ha : SE X a ma) (hb : SE X b mb) (he : starEach [a, b] X.env = (false, eval a X.env) :: starEach [b] X.env := by rfl) (he2 : starEach [b] X.env = (false, eval b X.env) :: starEach [] X.env := by rfl) (hpl : (backTo pos (starEach [b] X.env)).any (·.1) = false := by rfl) : SE X (.Call (.Name "min" p) [a, b] [] pos) (m2 fMin2 ma mb) := se_b2 (call_min2 hc) cov_min2 hg hm (by decide +kernel) ha hb (he := he) (he2 := he2) (hpl := hpl)
theorem sc_sorted (hg : Gl X "sorted") (hm : X.mg "sorted" = none) (ha : SE X a ma) (he : starEach [a] X.env = (false, eval a X.env) :: starEach [] X.env := by rfl) : SC X (.Call (.Name "sorted" p) [a] [] pos) (m1 fSorted ma) := sc_b1 (CallR.or cr_sorted cr_sortedS) crv_sorted hg hm (by decide +kernel) ha (he := he)
end
/-! ### isinstance -/
inductive Ty where
  | non | bl | int | str | tup | lst | dic
  deriving DecidableEq
def Ty.nm : Ty → String
  | .non => "NoneType" | .bl => "bool" | .int => "int" | .str => "str" | .tup => "tuple" | .lst => "list" | .dic => "dict"
def tyD (S : Store) (d : D) : Option Ty := match deref S d with
  | some .non => some .non
  | some (.bl _) => some .bl
  | some (.int _) => some .int
  | some (.str _) => some .str
  | some (.tup _) => some .tup
  | some (.lst _) => some .lst
  | some (.scr _) => some .lst
  | some (.dic _ _) => some .dic
  | _ => none
def isT (a b : Ty) : Bool := decide (a = b) || (decide (a = .bl) && decide (b = .int))
def allTy : List Ty := [.non, .bl, .int, .str, .tup, .lst, .dic]
theorem mem_allTy (a : Ty) : a ∈ allTy := by cases a <;> decide
theorem kit_all : (allTy.all fun a => allTy.all fun b => (b == .non) || (kitB a.nm b.nm == some (isT a b))) = true := by decide +kernel
theorem kit_at (a b : Ty) (hb : b ≠ .non) : kitB a.nm b.nm = some (isT a b) := by
  have h := List.all_eq_true.mp (List.all_eq_true.mp kit_all a (mem_allTy a)) b (mem_allTy b)
  rcases Bool.or_eq_true_iff.mp h with z | z
  · exact absurd (by cases b <;> first | rfl | (revert z; decide)) hb
  · exact beq_iff_eq.mp z
def fIsi (T : Ty) : F1 := fun S d => (tyD S d).map fun t => .bl (isT t T)
def fIsi2 (Ts : List Ty) : F1 := fun S d => (tyD S d).map fun t => .bl (Ts.any fun T => isT t T)
section
variable {K : PySem.W.Frag} {mg : Str → Option Value}
theorem tyD_ok {H : Hp} {W : Wd} {S : Store} {v : V} {d : D} {t : Ty} (r : Rep K mg H W v d) (s : StoreOk K mg H W S) (h : tyD S d = some t) : TyX K H v (.type t.nm) := by
  cases r with
  | non => cases h; exact .base .non
  | unset => cases h
  | bl b => cases h; exact .base (.bl b)
  | int i => cases h; exact .base (.int i)
  | str x => cases h; exact .base (.str x)
  | tup h1 r1 =>
    cases h
    rcases h1 with (h1 | ⟨o, h1⟩) | ⟨o, its, n, h1, h2, _⟩
    · exact .base (.tup h1)
    · exact .fTuple h1
    · exact .kTuple h1 h2
  | lst f h1 r1 => cases h; exact .base (.lst h1)
  | scr h1 r1 =>
    cases h
    rcases h1 with ⟨o, h1⟩ | ⟨o, its, n, h1, h2, _⟩
    · exact .base (.frz h1)
    · exact .kList h1 h2
  | dicK f h1 e r1 => cases h; exact .base (.dK h1)
  | dicT f h1 e r1 => cases h; exact .base (.dT h1)
  | obj f f2 hc h1 h2 r1 => cases h
  | obj0 f hc h1 => cases h
  | @loc k a h1 =>
    unfold tyD deref at h
    dsimp only at h
    cases e : S[k]? with
    | none => rw [e] at h; cases h
    | some d =>
      rw [e] at h
      cases s.at_ _ _ _ h1 e with
      | lst h2 r2 => cases h; exact .base (.lst h2)
      | dicK h2 e2 r2 => cases h; exact .base (.dK h2)
      | dicT h2 e2 r2 => cases h; exact .base (.dT h2)
      | obj f2 hc n h2 h3 r2 => cases h
      | obj0 hc n hw h2 h3 => cases h
theorem kitAny_at (a : Ty) : ∀ Ts : List Ty, (∀ T ∈ Ts, T ≠ .non) → PySem.W.kitAny K (.type a.nm) (Ts.map fun T => .type T.nm) = some (Ts.any fun T => isT a T)
  | [], _ => kitAny_nil
  | T :: Ts, h => by
    rw [List.map_cons, List.any_cons]
    refine kitAny_cons (kit_ty (kit_at a T (h T (by simp)))) (fun e => ?_) fun e => by rw [e]; rfl
    rw [e, Bool.false_or]
    exact kitAny_at a Ts fun T' h' => h T' (List.mem_cons_of_mem _ h')
end
section
variable {X : Cx} {a : Expr} {p p2 p3 p4 pos : Pos} {ma : M} {y z : Str}
theorem se_isi (T : Ty) (hT : T ≠ .non) (hg : Gl X "isinstance") (hm : X.mg "isinstance" = none) (hg2 : Gl X y) (hm2 : X.mg y = none) (hv2 : bootBuiltins y = some (.type T.nm)) (ha : SE X a ma) (hn : y ≠ "__name__" := by decide) (hdb : (y == ("__debug__" : Str)) = false := by decide)
    (he : starEach [a, .Name y p2] X.env = (false, eval a X.env) :: starEach [.Name y p2] X.env := by rfl) : SE X (.Call (.Name "isinstance" p) [a, .Name y p2] [] pos) (m1 (fIsi T) ma) :=
  pe_imp (pe_callB call_isi hg hm (by decide +kernel) (pa_cons ha (pa_cons (pe_bltn (v := .ty T.nm) hg2 hm2 hv2 rfl hn hdb) pa_nil rfl) he) (by decide) (by decide) he rfl) fun σ H Q h => by
    refine one_ok (r := fun x H Q => rIsi X.K [x, .ty T.nm] H Q) ?_ h
    refine .here fun H W S v d d' Q rv s hf q => ?_
    obtain ⟨t, h1, h2⟩ := Option.map_eq_some_iff.mp hf
    subst h2
    exact ⟨v, _, _, _, _, rfl, .ty T.nm, tyD_ok rv s h1, kit_ty (kit_at t T hT), q _ (.bl _)⟩
theorem se_isi2 (T T2 : Ty) (hT : T ≠ .non) (hT2 : T2 ≠ .non) (hg : Gl X "isinstance") (hm : X.mg "isinstance" = none) (hg2 : Gl X y) (hm2 : X.mg y = none) (hv2 : bootBuiltins y = some (.type T.nm)) (hg3 : Gl X z) (hm3 : X.mg z = none) (hv3 : bootBuiltins z = some (.type T2.nm)) {x1 : Nat} (ha : SE X a ma)
    (hn : y ≠ "__name__" := by decide) (hdb : (y == ("__debug__" : Str)) = false := by decide) (hn3 : z ≠ "__name__" := by decide) (hdb3 : (z == ("__debug__" : Str)) = false := by decide)
    (he : starEach [a, .Tuple [.Name y p2, .Name z p3] x1 p4] X.env = (false, eval a X.env) :: starEach [.Tuple [.Name y p2, .Name z p3] x1 p4] X.env := by rfl) (hpl : (backTo pos (starEach [.Tuple [.Name y p2, .Name z p3] x1 p4] X.env)).any (·.1) = false := by rfl) : SE X (.Call (.Name "isinstance" p) [a, .Tuple [.Name y p2, .Name z p3] x1 p4] [] pos) (m1 (fIsi2 [T, T2]) ma) :=
  pe_imp (pe_callB call_isiT hg hm (by decide +kernel) (pa_cons ha (pa_cons (pe_tup (pa_cons (pe_bltn (v := .ty T.nm) hg2 hm2 hv2 rfl hn hdb) (pa_cons (pe_bltn (v := .ty T2.nm) hg3 hm3 hv3 rfl hn3 hdb3) pa_nil rfl) rfl)) pa_nil rfl) he) (by decide) (by decide) he hpl) fun σ H Q ⟨W, en, S, d, S', hE, hS, hm, q⟩ => by
    obtain ⟨d1, h1, h3⟩ := m1_eq hm
    obtain ⟨t, h4, h5⟩ := Option.map_eq_some_iff.mp h3
    subst h5
    refine ⟨W, en, S, d1, S', hE, hS, h1, fun v1 W1 H1 st1 r1 s1 => ⟨by simp [sizeLine_eq], fun tp hp => ?_⟩⟩
    have st2 := Step.laid (W := W1) (o := .tup [.ty T.nm, .ty T2.nm]) hp
    refine ⟨v1, tp, _, _, [.type T.nm, .type T2.nm], _, rfl, upd_same, .cons (.ty _) (.cons (.ty _) .nil), tyD_ok (r1.mono st2) (s1.laid hp) h4, ?_, q _ W1 _ (st1.trans st2) (.bl _) (s1.laid hp)⟩
    exact kitAny_at t [T, T2] fun T' h' => by
      simp at h'
      rcases h' with e | e <;> (rw [e]; assumption)
end
end MM
set_option maxRecDepth 100000
set_option maxHeartbeats 2000000
namespace MM
open PySem PySem.Spec PyProof.Rows L2
variable [TB : Tabl]
/-! ### equality of data, as it is written -/
mutual
def D.beq : D → D → Bool
  | .non, .non => true
  | .unset, .unset => true
  | .bl a, .bl b => a == b
  | .int a, .int b => a == b
  | .str a, .str b => a == b
  | .tup a, .tup b => D.beqs a b
  | .lst a, .lst b => D.beqs a b
  | .scr a, .scr b => D.beqs a b
  | .dic a b, .dic c d => D.beqs a c && D.beqs b d
  | .obj a b, .obj c d => a == c && D.beqs b d
  | .loc a, .loc b => a == b
  | _, _ => false
def D.beqs : List D → List D → Bool
  | [], [] => true
  | a :: as, b :: bs => D.beq a b && D.beqs as bs
  | _, _ => false
end
mutual
theorem D.beq_eq : ∀ {a b : D}, D.beq a b = true → a = b
  | .non, b, h => by cases b <;> simp_all [D.beq]
  | .unset, b, h => by cases b <;> simp_all [D.beq]
  | .bl a, b, h => by cases b <;> simp_all [D.beq]
  | .int a, b, h => by cases b <;> simp_all [D.beq]
  | .str a, b, h => by cases b <;> simp_all [D.beq]
  | .loc a, b, h => by cases b <;> simp_all [D.beq]
  | .tup a, b, h => by
    cases b <;> simp only [D.beq] at h <;> try cases h
    rw [D.beqs_eq h]
  | .lst a, b, h => by
    cases b <;> simp only [D.beq] at h <;> try cases h
    rw [D.beqs_eq h]
  | .scr a, b, h => by
    cases b <;> simp only [D.beq] at h <;> try cases h
    rw [D.beqs_eq h]
  | .dic a a2, b, h => by
    cases b <;> simp only [D.beq] at h <;> try cases h
    obtain ⟨h1, h2⟩ := Bool.and_eq_true_iff.mp h
    rw [D.beqs_eq h1, D.beqs_eq h2]
  | .obj a a2, b, h => by
    cases b <;> simp only [D.beq] at h <;> try cases h
    obtain ⟨h1, h2⟩ := Bool.and_eq_true_iff.mp h
    rw [beq_iff_eq.mp h1, D.beqs_eq h2]
theorem D.beqs_eq : ∀ {a b : List D}, D.beqs a b = true → a = b
  | [], b, h => by cases b <;> simp_all [D.beqs]
  | x :: xs, b, h => by
    cases b with
    | nil => simp [D.beqs] at h
    | cons y ys =>
      rw [D.beqs] at h
      obtain ⟨h1, h2⟩ := Bool.and_eq_true_iff.mp h
      rw [D.beq_eq h1, D.beqs_eq h2]
end
mutual
theorem D.beq_refl : ∀ a : D, D.beq a a = true
  | .non => rfl
  | .unset => rfl
  | .bl a => by simp [D.beq]
  | .int a => by simp [D.beq]
  | .str a => by simp [D.beq]
  | .loc a => by simp [D.beq]
  | .tup a => by simp [D.beq, D.beqs_refl a]
  | .lst a => by simp [D.beq, D.beqs_refl a]
  | .scr a => by simp [D.beq, D.beqs_refl a]
  | .dic a b => by simp [D.beq, D.beqs_refl a, D.beqs_refl b]
  | .obj a b => by simp [D.beq, D.beqs_refl b]
theorem D.beqs_refl : ∀ a : List D, D.beqs a a = true
  | [] => rfl
  | x :: xs => by simp [D.beqs, D.beq_refl x, D.beqs_refl xs]
end
/-! ### statements -/
inductive Fl where
  | nx | rt (d : D) | bk | ct
abbrev MS := MEnv → Store → Option (Fl × MEnv × Store)
def Fin' (K : PySem.W.Frag) (mg : Str → Option Value) (W : Wd) (H : Hp) (E : Ends) (f : Fl) (e' : MEnv) (S' : Store) : Prop := match f with
  | .nx => ∀ σ' W' H', Step W H W' H' → EnvOk K mg H' W' σ' e' → StoreOk K mg H' W' S' → E.nx σ' H'
  | .rt d => ∀ v W' H', Step W H W' H' → Rep K mg H' W' v d → StoreOk K mg H' W' S' → E.rt v H'
  | .bk => ∀ σ' W' H', Step W H W' H' → EnvOk K mg H' W' σ' e' → StoreOk K mg H' W' S' → E.bk σ' H'
  | .ct => ∀ σ' W' H', Step W H W' H' → EnvOk K mg H' W' σ' e' → StoreOk K mg H' W' S' → E.ct σ' H'
theorem Fin'.mono {K : PySem.W.Frag} {mg : Str → Option Value} {W W1 : Wd} {H H1 : Hp} {E : Ends} {f : Fl} {e' : MEnv} {S' : Store} (st : Step W H W1 H1) (h : Fin' K mg W H E f e' S') : Fin' K mg W1 H1 E f e' S' := by
  cases f with
  | nx => exact fun σ' W' H' s => h σ' W' H' (st.trans s)
  | rt d => exact fun σ' W' H' s => h σ' W' H' (st.trans s)
  | bk => exact fun σ' W' H' s => h σ' W' H' (st.trans s)
  | ct => exact fun σ' W' H' s => h σ' W' H' (st.trans s)
def tSt (K : PySem.W.Frag) (mg : Str → Option Value) (m : MS) : TS := fun E σ H => ∃ W e S f e' S', EnvOk K mg H W σ e ∧ StoreOk K mg H W S ∧ m e S = some (f, e', S') ∧ Fin' K mg W H E f e' S'
abbrev S1 (X : Cx) (st : Stmt) (m : MS) : Prop := PS X st (tSt X.K X.mg m)
abbrev SS (X : Cx) (st : List Stmt) (m : MS) : Prop := PSs X st (tSt X.K X.mg m)
def sNil : MS := fun e S => some (.nx, e, S)
def sSeq (a b : MS) : MS := fun e S => (a e S).bind fun x => match x.1 with
  | .nx => b x.2.1 x.2.2
  | f => some (f, x.2.1, x.2.2)
def sSet (i : Nat) (m : M) : MS := fun e S => (m e S).map fun x => (.nx, e.set i (some x.1), x.2)
def sExpr (m : M) : MS := fun e S => (m e S).map fun x => (.nx, e, x.2)
def sRet (m : M) : MS := fun e S => (m e S).map fun x => (.rt x.1, e, x.2)
def sRetN : MS := fun e S => some (.rt .non, e, S)
def sIf (t : MT) (a b : MS) : MS := fun e S => (t e S).bind fun x => if x.1 = true then a e x.2 else b e x.2
def sBrk : MS := fun e S => some (.bk, e, S)
def sCnt : MS := fun e S => some (.ct, e, S)
def sNone : MS := fun _ _ => none
section
variable {X : Cx} {st : Stmt} {sts : List Stmt} {pos : Pos} {e c : Expr} {m : M} {ms ms' : MS} {t : MT} {p q : List Stmt}
theorem ps_imp {u u' : TS} (h : PS X st u) (i : ∀ D σ H, u' D σ H → u D σ H) : PS X st u' := ⟨fun pins s σ H D I q => h.run pins s σ H D I (i _ _ _ q)⟩
theorem pss_imp {u u' : TS} (h : PSs X sts u) (i : ∀ D σ H, u' D σ H → u D σ H) : PSs X sts u' := ⟨fun pins s σ H D I q => h.run pins s σ H D I (i _ _ _ q)⟩
theorem ss_nil : SS X [] sNil := pss_imp pss_nil fun D σ H ⟨W, en, S, f, e', S', hE, hS, hm, q⟩ => by
  cases hm
  exact q σ W H .refl hE hS
theorem ss_cons (h1 : S1 X st ms) (h2 : SS X sts ms') : SS X (st :: sts) (sSeq ms ms') := pss_imp (pss_cons h1 h2) fun D σ H ⟨W, en, S, f, e', S', hE, hS, hm, q⟩ => by
  unfold sSeq at hm
  obtain ⟨⟨f1, e1, S1⟩, h1, hm⟩ := Option.bind_eq_some_iff.mp hm
  cases f1 with
  | nx => exact ⟨W, en, S, .nx, e1, S1, hE, hS, h1, fun σ' W' H' s1 r1 o1 => ⟨W', e1, S1, f, e', S', r1, o1, hm, q.mono s1⟩⟩
  | rt d => cases hm; exact ⟨W, en, S, _, _, _, hE, hS, h1, q⟩
  | bk => cases hm; exact ⟨W, en, S, _, _, _, hE, hS, h1, q⟩
  | ct => cases hm; exact ⟨W, en, S, _, _, _, hE, hS, h1, q⟩
theorem ss_one (h1 : S1 X st ms) : SS X [st] ms := pss_one h1
theorem ss_never : SS X sts sNone := pss_imp pss_never fun D σ H ⟨W, en, S, f, e', S', hE, hS, hm, q⟩ => nomatch hm
theorem s1_never : S1 X st sNone := ps_imp ps_never fun D σ H ⟨W, en, S, f, e', S', hE, hS, hm, q⟩ => nomatch hm
theorem s1_set {i : Nat} {x : Str} {pos' : Pos} (hN : X.N.Nodup) (hi : X.N[i]? = some x) (hx : Loc X.env.scope x) (he : SE X e m) (hs : swapsWith e (some (.Name x pos')) pos.line X.env = pure false := by rfl) (hf : X.fn x = true ∨ X.env.scope.names.lookup x = some .local := by first | exact .inl rfl | exact .inr rfl | assumption) :
    S1 X (.Assign [.Name x pos'] e pos) (sSet i m) := ps_imp (ps_set hN hi hx he hs hf) fun D σ H ⟨W, en, S, f, e', S', hE, hS, hm, q⟩ => by
  unfold sSet at hm
  obtain ⟨⟨d1, S1⟩, e1, hm⟩ := Option.map_eq_some_iff.mp hm
  cases hm
  exact ⟨W, en, S, d1, _, hE, hS, e1, fun v W1 H1 st r s => q _ W1 H1 st ((hE.mono st).set r i) s⟩
theorem s1_expr (he : SE X e m) (hs : swapsWith e none pos.line X.env = pure false := by rfl) : S1 X (.Expr e pos) (sExpr m) := ps_imp (ps_expr he hs) fun D σ H ⟨W, en, S, f, e', S', hE, hS, hm, q⟩ => by
  unfold sExpr at hm
  obtain ⟨⟨d1, S1⟩, e1, hm⟩ := Option.map_eq_some_iff.mp hm
  cases hm
  exact ⟨W, en, S, d1, _, hE, hS, e1, fun v W1 H1 st r s => q _ W1 H1 st (hE.mono st) s⟩
theorem s1_ret (he : SE X e m) : S1 X (.Return (some e) pos) (sRet m) := ps_imp (ps_ret he) fun D σ H ⟨W, en, S, f, e', S', hE, hS, hm, q⟩ => by
  unfold sRet at hm
  obtain ⟨⟨d1, S1⟩, e1, hm⟩ := Option.map_eq_some_iff.mp hm
  cases hm
  exact ⟨W, en, S, d1, _, hE, hS, e1, fun v W1 H1 st r s => q _ W1 H1 st r s⟩
theorem s1_retN : S1 X (.Return none pos) sRetN := ps_imp ps_retN fun D σ H ⟨W, en, S, f, e', S', hE, hS, hm, q⟩ => by
  cases hm
  exact q _ W H .refl .non hS
theorem s1_if (hc : ST X c t) (ha : SS X p ms) (hb : SS X q ms') : S1 X (.If c p q pos) (sIf t ms ms') := ps_imp (ps_if hc ha hb) fun D σ H ⟨W, en, S, f, e', S', hE, hS, hm, q⟩ => by
  unfold sIf at hm
  obtain ⟨⟨d1, S1⟩, e1, hm⟩ := Option.bind_eq_some_iff.mp hm
  refine ⟨W, en, S, d1, S1, hE, hS, e1, fun W1 H1 st s => ?_⟩
  cases d1 with
  | true => exact iteT ⟨W1, en, S1, f, e', S', hE.mono st, s, by simpa using hm, q.mono st⟩
  | false => exact iteF ⟨W1, en, S1, f, e', S', hE.mono st, s, by simpa using hm, q.mono st⟩
theorem s1_brk : S1 X (.Break pos) sBrk := ps_imp ps_break fun D σ H ⟨W, en, S, f, e', S', hE, hS, hm, q⟩ => by
  cases hm
  exact q σ W H .refl hE hS
theorem s1_cnt : S1 X (.Continue pos) sCnt := ps_imp ps_continue fun D σ H ⟨W, en, S, f, e', S', hE, hS, hm, q⟩ => by
  cases hm
  exact q σ W H .refl hE hS
end
/-! ### targets -/
abbrev PTg := D → MEnv → Option MEnv
abbrev PTs := List D → MEnv → Option MEnv
def tG (K : PySem.W.Frag) (mg : Str → Option Value) (p : PTg) (vs : List Nat) : TG := fun v σ H Q => ∃ W e d e', EnvOk K mg H W σ e ∧ Rep K mg H W v d ∧ p d e = some e' ∧ ∀ σ', EnvOk K mg H W σ' e' → wipe σ' vs = wipe σ vs → Q σ' H
def tGs (K : PySem.W.Frag) (mg : Str → Option Value) (p : PTs) (vs : List Nat) : TGs := fun v σ H Q => ∃ W e d e', EnvOk K mg H W σ e ∧ Reps K mg H W v d ∧ p d e = some e' ∧ ∀ σ', EnvOk K mg H W σ' e' → wipe σ' vs = wipe σ vs → Q σ' H
abbrev SG (X : Cx) (tg : Expr) (p : PTg) (vs : List Nat) : Prop := PG X tg (tG X.K X.mg p vs)
abbrev SGs (X : Cx) (tg : List Expr) (p : PTs) (vs : List Nat) : Prop := PGs X tg (tGs X.K X.mg p vs)
def pN (i : Nat) : PTg := fun d e => some (e.set i (some d))
def pNil : PTs := fun d e => match d with
  | [] => some e
  | _ => none
def pCons (p : PTg) (ps : PTs) : PTs := fun d e => match d with
  | [] => none
  | x :: xs => (p x e).bind fun e1 => ps xs e1
def pT (n : Nat) (ps : PTs) : PTg := fun d e => match d with
  | .tup xs => if xs.length = n then ps xs e else none
  | _ => none
theorem wipe_set {σ : L2.St} {i : Nat} {x : Option V} : ∀ {vs : List Nat}, i ∈ vs → wipe (σ.set i x) vs = wipe σ vs
  | [], h => absurd h (by simp)
  | v :: vs, h => by
    have e1 : wipe (σ.set i x) (v :: vs) = (wipe (σ.set i x) vs).set v none := rfl
    have e2 : wipe σ (v :: vs) = (wipe σ vs).set v none := rfl
    rw [e1, e2]
    by_cases hi : i ∈ vs
    · rw [wipe_set hi]
    · have hv : i = v := (List.mem_cons.mp h).resolve_right hi
      subst hv
      clear e1 e2 h
      suffices key : ∀ us : List Nat, i ∉ us → wipe (σ.set i x) us = (wipe σ us).set i x by
        rw [key vs hi, List.set_set]
      intro us hu
      induction us with
      | nil => rfl
      | cons u us ih =>
        have h1 : wipe (σ.set i x) (u :: us) = (wipe (σ.set i x) us).set u none := rfl
        have h2 : wipe σ (u :: us) = (wipe σ us).set u none := rfl
        rw [h1, h2, ih fun z => hu (List.mem_cons_of_mem _ z), List.set_comm _ _ (fun z => hu (by simp [z]))]
section
variable {X : Cx} {tg : Expr} {tgs : List Expr} {pos : Pos} {p : PTg} {ps : PTs} {vs : List Nat}
theorem pg_imp {t t' : TG} (h : PG X tg t) (i : ∀ v σ H Q, t' v σ H Q → t v σ H Q) : PG X tg t' := ⟨fun pins s σ H v u Q I r q => h.run pins s σ H v u Q I r (i _ _ _ _ q)⟩
theorem pgs_imp {t t' : TGs} (h : PGs X tgs t) (i : ∀ v σ H Q, t' v σ H Q → t v σ H Q) : PGs X tgs t' := ⟨fun pins s σ H v u Q I r q => h.run pins s σ H v u Q I r (i _ _ _ _ q)⟩
theorem sg_name {i : Nat} {x : Str} (hv : i ∈ vs) (hN : X.N.Nodup) (hi : X.N[i]? = some x) (hx : Loc X.env.scope x) (hf : X.fn x = true ∨ X.env.scope.names.lookup x = some .local := by first | exact .inl rfl | exact .inr rfl | assumption) : SG X (.Name x pos) (pN i) vs :=
  pg_imp (pg_name hN hi hx hf) fun v σ H Q ⟨W, e, d, e', hE, r, hp, q⟩ => by
    cases hp
    exact q _ (hE.set r i) (wipe_set hv)
theorem sgs_nil : SGs X [] pNil vs := pgs_imp pgs_nil fun v σ H Q ⟨W, e, d, e', hE, r, hp, q⟩ => by
  cases r with
  | nil => cases hp; exact ⟨rfl, q _ hE rfl⟩
  | cons h t => cases hp
theorem sgs_cons (h1 : SG X tg p vs) (h2 : SGs X tgs ps vs) (hs : (assignEach (tg :: tgs) X.env).map (·.2) = assign tg X.env :: (assignEach tgs X.env).map (·.2) := by rfl) : SGs X (tg :: tgs) (pCons p ps) vs := pgs_imp (pgs_cons h1 h2 hs) fun v σ H Q ⟨W, e, d, e', hE, r, hp, q⟩ => by
  cases r with
  | nil => cases hp
  | cons h t =>
    obtain ⟨e1, hp1, hp2⟩ := Option.bind_eq_some_iff.mp hp
    exact ⟨_, _, rfl, W, e, _, e1, hE, h, hp1, fun σ1 hE1 w1 => ⟨W, e1, _, e', hE1, t, hp2, fun σ2 hE2 w2 => q σ2 hE2 (w2.trans w1)⟩⟩
theorem sg_tup {k n : Nat} (hc : X.calm = true) (h : SGs X tgs ps vs) (hn : (assignEach tgs X.env).length = n := by rfl) (hst : (assignEach tgs X.env).findIdx? (·.1) = none := by rfl) : SG X (.Tuple tgs k pos) (pT n ps) vs :=
  pg_imp (pg_tup hc h hn hst) fun v σ H Q ⟨W, e, d, e', hE, r, hp, q⟩ => by
    unfold pT at hp
    split at hp
    · split at hp
      · rename_i hz
        cases r with
        | tup h1 r1 => exact ⟨_, _, rfl, h1, by rw [r1.length]; exact hz, W, e, _, e', hE, r1, hp, q⟩
      · cases hp
    · cases hp
end
def sAsg (m : M) (p : PTg) : MS := fun e S => (m e S).bind fun x => (p x.1 e).map fun e' => (.nx, e', x.2)
/-- two, three names at once -/
def sPar (as : MA) (ps : PTs) : MS := fun e S => (as e S).bind fun x => (ps x.1 e).map fun e' => (.nx, e', x.2)
section
variable {X : Cx} {tg a b c : Expr} {pos : Pos} {p : PTg} {vs : List Nat} {m : M} {as : MA}
theorem s1_asg (he : SE X a m) (hg : SG X tg p vs) (hs : swapsWithSole [tg] a pos.line X.env = pure false := by rfl) (hw : swappedStores [tg] a X.env = pure none := by rfl)
    (h1 : (assignEach [tg] X.env).map (·.2) = [assign tg X.env] := by rfl) : S1 X (.Assign [tg] a pos) (sAsg m p) := ps_imp (ps_asg he hg hs hw h1) fun D σ H ⟨W, en, S, f, e', S', hE, hS, hm, q⟩ => by
  unfold sAsg at hm
  obtain ⟨⟨d1, S1⟩, e1, hm⟩ := Option.bind_eq_some_iff.mp hm
  obtain ⟨e2, e3, hm⟩ := Option.map_eq_some_iff.mp hm
  cases hm
  exact ⟨W, en, S, d1, _, hE, hS, e1, fun v W1 H1 st r s => ⟨W1, en, d1, _, hE.mono st, r, e3, fun σ' hE' _ => q σ' W1 H1 st hE' s⟩⟩
theorem s1_par {i j : Nat} {x y : Str} {px py pt : Pos} {kt k2 pt2} (hc : X.calm = true) (hN : X.N.Nodup) (hi : X.N[i]? = some x) (hj : X.N[j]? = some y) (hij : i ≠ j)
    (hx : X.env.scope.names.lookup x = some .local) (hy : X.env.scope.names.lookup y = some .local) (ha : SA X [a, b] as)
    (hw : swappedStores [.Tuple [.Name x px, .Name y py] kt pt] (.Tuple [a, b] k2 pt2) X.env = pure (some [x, y]) := by rfl)
    (hs : swapsWithSole [.Tuple [.Name x px, .Name y py] kt pt] (.Tuple [a, b] k2 pt2) pos.line X.env = pure false := by rfl) :
    S1 X (.Assign [.Tuple [.Name x px, .Name y py] kt pt] (.Tuple [a, b] k2 pt2) pos) (sPar as (pCons (pN i) (pCons (pN j) pNil))) := ps_imp (ps_par hc hN hi hj hij hx hy ha hw hs) fun D σ H ⟨W, en, S, f, e', S', hE, hS, hm, q⟩ => by
  unfold sPar at hm
  obtain ⟨⟨d1, S1⟩, e1, hm⟩ := Option.bind_eq_some_iff.mp hm
  obtain ⟨e2, e3, hm⟩ := Option.map_eq_some_iff.mp hm
  cases hm
  refine ⟨W, en, S, d1, _, hE, hS, e1, fun v W1 H1 st r s => ?_⟩
  cases r with
  | nil => cases e3
  | cons r1 t1 =>
    cases t1 with
    | nil => cases e3
    | cons r2 t2 =>
      cases t2 with
      | nil =>
        cases e3
        exact ⟨_, _, rfl, q _ W1 H1 st (((hE.mono st).set r1 i).set r2 j) s⟩
      | cons r3 t3 => cases e3
end
end MM
set_option maxRecDepth 100000
set_option maxHeartbeats 2000000
namespace MM
open PySem PySem.Spec PyProof.Rows L2
variable [TB : Tabl]
/-! ### moving on, with more to avoid -/
structure Mv (W : Wd) (H : Hp) (W2 : Wd) (H2 : Hp) : Prop where
  fz : ∀ a o, H a = some o → Fz W a → ((∀ y, o ≠ .own y) ∧ ∀ ps, o ≠ .tbl ps) → H2 a = some o ∧ Fz W2 a
  tups : ∀ b vs, H b = some (.tup vs) → H2 b = some (.tup vs)
  frzs : ∀ b o u, H b = some (.frz o u) → H2 b = some (.frz o u)
  get : ∀ (n : Nat) a, W.r[n]? = some a → W2.r[n]? = some a
section
variable {K : PySem.W.Frag} {mg : Str → Option Value} {H H2 : Hp} {W W2 : Wd}
theorem Mv.sqT (s : Mv W H W2 H2) {a : Addr} {vs : List V} (h : SqT K H a vs) : SqT K H2 a vs := by
  rcases h with (h | ⟨o, h⟩) | h
  · exact .inl (.inl (s.tups _ _ h))
  · exact .inl (.inr ⟨o, s.frzs _ _ _ h⟩)
  · exact .inr h
mutual
theorem Rep.mv (s : Mv W H W2 H2) : ∀ {v : V} {d : D}, Rep K mg H W v d → Rep K mg H2 W2 v d
  | _, _, .non => .non
  | _, _, .unset => .unset
  | _, _, .bl b => .bl b
  | _, _, .int i => .int i
  | _, _, .str x => .str x
  | _, _, .tup h r => .tup (s.sqT h) (Reps.mv s r)
  | _, _, .lst f h r => let z := s.fz _ _ h f ⟨fun _ => by simp, fun _ => by simp⟩; .lst z.2 z.1 (Reps.mv s r)
  | _, _, .scr h r => .scr (h.imp (fun ⟨o, e⟩ => ⟨o, s.frzs _ _ _ e⟩) id) (Reps.mv s r)
  | _, _, .dicK f h e r => let z := s.fz _ _ h f ⟨fun _ => by simp, fun _ => by simp⟩; .dicK z.2 z.1 e (Reps.mv s r)
  | _, _, .dicT f h e r => let z := s.fz _ _ h f ⟨fun _ => by simp, fun _ => by simp⟩; .dicT z.2 z.1 e (Reps.mv s r)
  | _, _, .obj f f2 hc h h2 r => let z := s.fz _ _ h f ⟨fun _ => slO_own, fun _ => slO_tbl⟩; let z2 := s.fz _ _ h2 f2 ⟨fun _ => by simp, fun _ => by simp⟩; .obj z.2 z2.2 hc z.1 z2.1 (Reps.mv s r)
  | _, _, .obj0 f hc h => let z := s.fz _ _ h f ⟨fun _ => by simp, fun _ => by simp⟩; .obj0 z.2 hc z.1
  | _, _, .loc h => .loc (s.get _ _ h)
theorem Reps.mv (s : Mv W H W2 H2) : ∀ {vs : List V} {ds : List D}, Reps K mg H W vs ds → Reps K mg H2 W2 vs ds
  | _, _, .nil => .nil
  | _, _, .cons h t => .cons (Rep.mv s h) (Reps.mv s t)
end
theorem Step.mv (s : Step W H W2 H2) : Mv W H W2 H2 := ⟨fun a o h f no => ⟨s.at h f no, s.fz h f⟩, s.tups, s.frzs, fun _ _ h => s.get h⟩
/-- a step, then one more new address to be avoided -/
theorem Step.mvPush (s : Step W H W2 H2) {p : Addr} (hp : H p = none) : Mv W H (W2.push p) H2 := ⟨fun a o h f no => ⟨s.at h f no, (s.fz h f).1, fun z => (List.mem_cons.mp z).elim (fun e => by subst e; rw [hp] at h; cases h) (s.fz h f).2⟩, s.tups, s.frzs, fun _ _ h => s.get h⟩
theorem EnvOk.mv {σ : L2.St} {e : MEnv} (s : Mv W H W2 H2) (h : EnvOk K mg H W σ e) : EnvOk K mg H2 W2 σ e :=
  ⟨h.len, fun i d q => let ⟨v, a, b⟩ := h.at_ i d q; ⟨v, a, b.mv s⟩⟩
end
def wipeE (e : MEnv) : List Nat → MEnv
  | [] => e
  | v :: vs => (wipeE e vs).set v none
theorem wipe_get {σ : L2.St} {i : Nat} : ∀ {vs : List Nat}, i ∉ vs → (wipe σ vs)[i]? = σ[i]?
  | [], _ => rfl
  | v :: vs, h => by
    have e2 : wipe σ (v :: vs) = (wipe σ vs).set v none := rfl
    rw [e2, List.getElem?_set_ne (fun z => h (by simp [z])), wipe_get fun z => h (List.mem_cons_of_mem _ z)]
theorem wipeE_some {e : MEnv} {i : Nat} {d : D} : ∀ {vs : List Nat}, (wipeE e vs)[i]? = some (some d) → e[i]? = some (some d) ∧ i ∉ vs
  | [], h => ⟨h, by simp⟩
  | v :: vs, h => by
    have e2 : wipeE e (v :: vs) = (wipeE e vs).set v none := rfl
    rw [e2, List.getElem?_set] at h
    split at h
    · split at h <;> cases h
    · rename_i hv
      obtain ⟨h1, h2⟩ := wipeE_some h
      exact ⟨h1, fun z => (List.mem_cons.mp z).elim (fun q => hv q.symm) h2⟩
theorem wipeE_len {e : MEnv} : ∀ {vs : List Nat}, (wipeE e vs).length = e.length
  | [] => rfl
  | v :: vs => by
    have e2 : wipeE e (v :: vs) = (wipeE e vs).set v none := rfl
    rw [e2, List.length_set, wipeE_len]
theorem wipe_wipe {σ : L2.St} : ∀ {vs us : List Nat}, (∀ v ∈ vs, v ∈ us) → wipe (wipe σ vs) us = wipe σ us
  | [], _, _ => rfl
  | v :: vs, us, h => by
    have e2 : wipe σ (v :: vs) = (wipe σ vs).set v none := rfl
    rw [e2, wipe_set (h v (by simp)), wipe_wipe fun u hu => h u (List.mem_cons_of_mem _ hu)]
theorem EnvOk.wipe {K : PySem.W.Frag} {mg : Str → Option Value} {H : Hp} {W : Wd} {σ : L2.St} {e : MEnv} (h : EnvOk K mg H W σ e) (vs : List Nat) : EnvOk K mg H W (L2.wipe σ vs) (wipeE e vs) := by
  refine ⟨by rw [wipeE_len, wipe_length, h.len], fun i d q => ?_⟩
  obtain ⟨h1, h2⟩ := wipeE_some q
  obtain ⟨v, h3, h4⟩ := h.at_ i d h1
  exact ⟨v, by rw [wipe_get h2]; exact h3, h4⟩
/-! ### what is walked -/
structure Its where
  items : List D
  dep : List (Nat × D)
def still (S : Store) (I : Its) : Bool := I.dep.all fun p => match S[p.1]? with
  | some d => D.beq d p.2
  | none => false
theorem still_at {S : Store} {I : Its} (h : still S I = true) {k : Nat} {d : D} (hk : (k, d) ∈ I.dep) : S[k]? = some d := by
  have h1 := List.all_eq_true.mp h _ hk
  cases e : S[k]? with
  | none => simp only [e] at h1; cases h1
  | some c =>
    simp only [e] at h1
    rw [D.beq_eq h1]
abbrev MI := MEnv → Store → Option (Its × Store)
/-- the turns that are to come, whatever a turn does -/
def ItOk (K : PySem.W.Frag) (mg : Str → Option Value) (J : It) (I : Its) (W : Wd) (H : Hp) : Prop := ∃ (G : Hp → Prop) (Y : Nat → Hp → V → Hp → Prop), Walk J I.items.length G Y ∧
  ∀ (W2 : Wd) (H2 : Hp) (S2 : Store), Mv W H W2 H2 → StoreOk K mg H2 W2 S2 → still S2 I = true → G H2 ∧ ∀ i x H3, i < I.items.length → Y i H2 x H3 → ∃ d, I.items[i]? = some d ∧ Step W2 H2 W2 H3 ∧ Rep K mg H3 W2 x d ∧ StoreOk K mg H3 W2 S2
def tI (K : PySem.W.Frag) (mg : Str → Option Value) (m : MI) : TI := fun σ H R => ∃ W e S I S', EnvOk K mg H W σ e ∧ StoreOk K mg H W S ∧ m e S = some (I, S') ∧
  ∀ J W' H', Step W H W' H' → StoreOk K mg H' W' S' → ItOk K mg J I W' H' → R J H'
abbrev SI (X : Cx) (tg iter : Expr) (m : MI) : Prop := PI X tg iter (tI X.K X.mg m)
def itsOf (S : Store) (d : D) : Option Its := match d with
  | .loc k => match S[k]? with
    | some (.lst xs) => some ⟨xs, [(k, .lst xs)]⟩
    | _ => none
  | .lst xs => some ⟨xs, []⟩
  | .scr xs => some ⟨xs, []⟩
  | .tup xs => some ⟨xs, []⟩
  | .str z => if z.length ≤ 4000 then some ⟨z.cps.toList.map fun c => .str ⟨#[c]⟩, []⟩ else none
  | _ => none
def iSeq (m : M) : MI := fun e S => (m e S).bind fun x => (itsOf x.2 x.1).map fun I => (I, x.2)
section
variable {K : PySem.W.Frag} {mg : Str → Option Value} {H : Hp} {W : Wd}
theorem walk_listL {a : Addr} {n : Nat} : Walk (Itl K a) n (fun H => ∃ vs, SqL K H a vs ∧ vs.length = n) (fun i H x H' => H' = H ∧ ∀ xs, SqL K H a xs → xs[i]? = some x) :=
  ⟨fun i H hi ⟨vs, q, e⟩ => ⟨vs, vs[i]'(by omega), q, by simp⟩, fun H ⟨vs, q, e⟩ => ⟨vs, q, by omega⟩, fun i H x H' hi _ y => y⟩
theorem walk_tupL {a : Addr} {n : Nat} : Walk (Itt K a) n (fun H => ∃ vs, SqT K H a vs ∧ vs.length = n) (fun i H x H' => H' = H ∧ ∀ xs, SqT K H a xs → xs[i]? = some x) :=
  ⟨fun i H hi ⟨vs, q, e⟩ => ⟨vs, vs[i]'(by omega), q, by simp⟩, fun H ⟨vs, q, e⟩ => ⟨vs, q, by omega⟩, fun i H x H' hi _ y => y⟩
/-- a list that stands: at each later state its items are told -/
def LstAt (K : PySem.W.Frag) (mg : Str → Option Value) (a : Addr) (I : Its) (W : Wd) (H : Hp) : Prop := ∀ (W2 : Wd) (H2 : Hp) (S2 : Store), Mv W H W2 H2 → StoreOk K mg H2 W2 S2 → still S2 I = true → ∃ vs, SqL K H2 a vs ∧ Reps K mg H2 W2 vs I.items
def TupAt (K : PySem.W.Frag) (mg : Str → Option Value) (a : Addr) (xs : List D) (W : Wd) (H : Hp) : Prop := ∀ (W2 : Wd) (H2 : Hp), Mv W H W2 H2 → ∃ vs, SqT K H2 a vs ∧ Reps K mg H2 W2 vs xs
theorem itsOf_list {S : Store} {v : V} {d : D} {I : Its} (r : Rep K mg H W v d) (s : StoreOk K mg H W S) (h : itsOf S d = some I) (n1 : ∀ xs, d ≠ .tup xs) (n2 : ∀ z, d ≠ .str z) : ∃ a vs, v = .ref a ∧ SqL K H a vs ∧ LstAt K mg a I W H := by
  cases r with
  | lst f h1 r1 =>
    cases h
    exact ⟨_, _, rfl, .inl (.inl h1), fun W2 H2 S2 m s2 st => ⟨_, .inl (.inl (m.fz _ _ h1 f ⟨fun _ => by simp, fun _ => by simp⟩).1), r1.mv m⟩⟩
  | scr h1 r1 =>
    cases h
    exact ⟨_, _, rfl, h1.sq, fun W2 H2 S2 m s2 st => ⟨_, Scr.sq (h1.imp (fun ⟨o, e⟩ => ⟨o, m.frzs _ _ _ e⟩) id), r1.mv m⟩⟩
  | @loc k a h1 =>
    unfold itsOf at h
    dsimp only at h
    split at h
    · rename_i ys hy
      cases h
      cases s.at_ _ _ _ h1 hy with
      | lst h2 r2 =>
        refine ⟨_, _, rfl, .inl (.inl h2), fun W2 H2 S2 m s2 st => ?_⟩
        have e2 := still_at st (k := k) (d := .lst ys) (by simp)
        cases s2.at_ _ _ _ (m.get _ _ h1) e2 with
        | lst h3 r3 => exact ⟨_, .inl (.inl h3), r3⟩
    · cases h
  | tup h1 r1 => exact absurd rfl (n1 _)
  | str x => exact absurd rfl (n2 _)
  | _ => cases h
theorem LstAt.ok {a : Addr} {I : Its} (h : LstAt K mg a I W H) : ItOk K mg (Itl K a) I W H := by
  refine ⟨_, _, walk_listL, fun W2 H2 S2 m s2 st => ?_⟩
  obtain ⟨vs, q, r⟩ := h W2 H2 S2 m s2 st
  refine ⟨⟨vs, q, r.length⟩, fun i x H3 hi y => ?_⟩
  obtain ⟨rfl, y⟩ := y
  obtain ⟨d, h1, h2⟩ := r.getV (y vs q)
  exact ⟨d, h1, .refl, h2, s2⟩
theorem TupAt.of {a : Addr} {vs : List V} {xs : List D} (h1 : SqT K H a vs) (r1 : Reps K mg H W vs xs) : TupAt K mg a xs W H := fun W2 H2 m => ⟨vs, m.sqT h1, r1.mv m⟩
theorem TupAt.ok {a : Addr} {xs : List D} {dep : List (Nat × D)} (h : TupAt K mg a xs W H) : ItOk K mg (Itt K a) ⟨xs, dep⟩ W H := by
  refine ⟨_, _, walk_tupL, fun W2 H2 S2 m s2 st => ?_⟩
  obtain ⟨vs, q, r⟩ := h W2 H2 m
  refine ⟨⟨vs, q, r.length⟩, fun i x H3 hi y => ?_⟩
  obtain ⟨rfl, y⟩ := y
  obtain ⟨d, h1, h2⟩ := r.getV (y vs q)
  exact ⟨d, h1, .refl, h2, s2⟩
end
section
variable {X : Cx} {tg iter a b : Expr} {m mb : M} {pos p : Pos}
theorem pi_imp {w w' : TI} (h : PI X tg iter w) (i : ∀ σ H R, w' σ H R → w σ H R) : PI X tg iter w' := ⟨fun pins s σ H R I q => h.run pins s σ H R I (i _ _ _ q)⟩
theorem pi_or {w w' : TI} (h : PI X tg iter w) (h' : PI X tg iter w') : PI X tg iter (fun σ H R => w σ H R ∨ w' σ H R) :=
  ⟨fun pins s σ H R I q => q.elim (h.run pins s σ H R I) (h'.run pins s σ H R I)⟩
theorem si_seq (h : SE X iter m) : SI X tg iter (iSeq m) := pi_imp (pi_or (pi_list h) (pi_or (pi_tup h) (pi_str h))) fun σ H R ⟨W, en, S, I, S', hE, hS, hm, q⟩ => by
  unfold iSeq at hm
  obtain ⟨⟨d, S1⟩, h1, hm⟩ := Option.bind_eq_some_iff.mp hm
  obtain ⟨I1, h2, hm⟩ := Option.map_eq_some_iff.mp hm
  cases hm
  by_cases n1 : ∃ xs, d = .tup xs
  · obtain ⟨xs, rfl⟩ := n1
    cases h2
    refine .inr (.inl ⟨W, en, S, _, _, hE, hS, h1, fun v W' H' st r s => ?_⟩)
    cases r with
    | tup h3 r3 => exact ⟨_, rfl, ⟨_, h3⟩, q _ W' H' st s (TupAt.of h3 r3).ok⟩
  · by_cases n2 : ∃ z, d = .str z
    · obtain ⟨z, rfl⟩ := n2
      dsimp only [itsOf] at h2
      split at h2
      · cases h2
        refine .inr (.inr ⟨W, en, S, _, _, hE, hS, h1, fun v W' H' st r s => ?_⟩)
        cases r
        refine ⟨z, rfl, q _ W' H' st s ?_⟩
        have hl : (z.cps.toList.map fun c => D.str ⟨#[c]⟩).length = z.cps.size := by simp
        refine ⟨_, _, (by rw [hl]; exact walk_str), fun W2 H2 S2 m s2 st => ⟨trivial, fun i x H3 hi y => ?_⟩⟩
        obtain ⟨rfl, c, h3, rfl⟩ := y
        refine ⟨.str ⟨#[c]⟩, ?_, .refl, .str _, s2⟩
        rw [List.getElem?_map, Array.getElem?_toList, h3]; rfl
      · cases h2
    · refine .inl ⟨W, en, S, _, _, hE, hS, h1, fun v W' H' st r s => ?_⟩
      obtain ⟨a, vs, rfl, h3, h4⟩ := itsOf_list r s h2 (fun xs e => n1 ⟨xs, e⟩) (fun z e => n2 ⟨z, e⟩)
      exact ⟨a, rfl, ⟨vs, h3⟩, q _ W' H' st s h4.ok⟩
/-- range(n), range(a, b) -/
def rngD (lo : Int) (n : Nat) : List D := (List.range n).map fun i => .int (lo + (i : Nat))
def iRg1 (m : M) : MI := fun e S => (m e S).bind fun x => match x.1 with
  | .int j => if -1000000 ≤ j ∧ j ≤ 1000000 then some (⟨rngD 0 j.toNat, []⟩, x.2) else none
  | _ => none
def iRg2 (m m2 : M) : MI := fun e S => (m e S).bind fun x => (m2 e x.2).bind fun y => match x.1, y.1 with
  | .int i, .int j => if -1000000 ≤ j ∧ j ≤ 1000000 ∧ -1000000 ≤ i ∧ i ≤ 1000000 then some (⟨rngD i (j - i).toNat, []⟩, y.2) else none
  | _, _ => none
theorem rng_ok {K : PySem.W.Frag} {mg : Str → Option Value} {H : Hp} {W : Wd} {lo : Int} {n : Nat} : ItOk K mg (Itr lo n) ⟨rngD lo n, []⟩ W H := by
  have hl : (rngD lo n).length = n := by simp [rngD]
  refine ⟨_, _, (by rw [hl]; exact walk_range), fun W2 H2 S2 m s2 st => ⟨trivial, fun i x H3 hi y => ?_⟩⟩
  obtain ⟨rfl, rfl⟩ := y
  refine ⟨.int (lo + (i : Nat)), ?_, .refl, .int _, s2⟩
  have hi : i < n := by simpa [hl] using hi
  show (rngD lo n)[i]? = _
  simp [rngD, hi]
theorem si_range1 (hg : Gl X "range") (hm : X.mg "range" = none) (ha : SE X a m) (hs : starEach [a] X.env = [(false, eval a X.env)] := by rfl) : SI X tg (.Call (.Name "range" p) [a] [] pos) (iRg1 m) := pi_imp (pi_range1 hg hm (pa_cons ha pa_nil hs) hs) fun σ H R ⟨W, en, S, I, S', hE, hS, hm, q⟩ => by
  unfold iRg1 at hm
  obtain ⟨⟨d, S1⟩, h1, hm⟩ := Option.bind_eq_some_iff.mp hm
  dsimp only at hm
  split at hm
  · split at hm
    · rename_i hz
      cases hm
      refine ⟨W, en, S, _, _, hE, hS, h1, fun v W' H' st r s => ?_⟩
      cases r
      exact ⟨_, rfl, by omega, by omega, q _ W' H' st s rng_ok⟩
    · cases hm
  · cases hm
theorem si_range2 (hg : Gl X "range") (hm : X.mg "range" = none) (ha : SE X a m) (hb : SE X b mb) (hs : starEach [a, b] X.env = [(false, eval a X.env), (false, eval b X.env)] := by rfl) (hs2 : starEach [b] X.env = [(false, eval b X.env)] := by rfl) : SI X tg (.Call (.Name "range" p) [a, b] [] pos) (iRg2 m mb) := pi_imp (pi_range2 hg hm (pa_cons ha (pa_cons hb pa_nil hs2) (by rw [hs, hs2])) hs hs2) fun σ H R ⟨W, en, S, I, S', hE, hS, hm, q⟩ => by
  unfold iRg2 at hm
  obtain ⟨⟨d, S1⟩, h1, hm⟩ := Option.bind_eq_some_iff.mp hm
  obtain ⟨⟨d2, S2⟩, h2, hm⟩ := Option.bind_eq_some_iff.mp hm
  dsimp only at hm h2
  split at hm
  · split at hm
    · rename_i hz
      cases hm
      refine ⟨W, en, S, _, _, hE, hS, h1, fun v W1 H1 st1 r1 s1 => ⟨W1, en, S1, _, _, hE.mono st1, s1, h2, fun v W' H' st r s => ?_⟩⟩
      cases r1
      cases r
      exact ⟨_, _, rfl, by omega, q _ W' H' (st1.trans st) s rng_ok⟩
    · cases hm
  · cases hm
/-- enumerate of a list -/
def pairsI : Nat → List D → List D
  | _, [] => []
  | n, x :: xs => .tup [.int n, x] :: pairsI (n + 1) xs
theorem pairsI_len : ∀ (n : Nat) (xs : List D), (pairsI n xs).length = xs.length
  | _, [] => rfl
  | n, x :: xs => by simp [pairsI, pairsI_len (n + 1) xs]
theorem pairsI_get : ∀ (n : Nat) (xs : List D) (i : Nat) (d : D), xs[i]? = some d → (pairsI n xs)[i]? = some (.tup [.int ((n + i : Nat) : Int), d])
  | _, [], _, _, h => by simp at h
  | n, x :: xs, 0, d, h => by simp at h; subst h; rfl
  | n, x :: xs, i + 1, d, h => by
    have := pairsI_get (n + 1) xs i d (by simpa using h)
    simp only [pairsI, List.getElem?_cons_succ]
    rw [this]
    congr 4
    omega
def iEnm (m : M) : MI := fun e S => (m e S).bind fun x => match x.1 with
  | .tup _ => none
  | .str _ => none
  | d => (itsOf x.2 d).map fun I => (⟨pairsI 0 I.items, I.dep⟩, x.2)
theorem new_pair {K : PySem.W.Frag} {mg : Str → Option Value} {H : Hp} {W : Wd} {S : Store} {T : Addr} {x y : V} {c d : D} (hT : H T = none) (s : StoreOk K mg H W S) (r1 : Rep K mg H W x c) (r2 : Rep K mg H W y d) :
    Step W H W (upd H T (.tup [x, y])) ∧ Rep K mg (upd H T (.tup [x, y])) W (.ref T) (.tup [c, d]) ∧ StoreOk K mg (upd H T (.tup [x, y])) W S :=
  ⟨.laid hT, .tup (.inl (.inl upd_same)) (.cons (r1.mono (.laid hT)) (.cons (r2.mono (.laid hT)) .nil)), s.laid hT⟩
theorem si_enum {elts : List Expr} {kk : Nat} {tpos : Pos} (hg : Gl X "enumerate") (hm : X.mg "enumerate" = none) (ha : SE X a m) (hs : starEach [a] X.env = [(false, eval a X.env)] := by rfl) : SI X (.Tuple elts kk tpos) (.Call (.Name "enumerate" p) [a] [] pos) (iEnm m) := pi_imp (pi_enum hg hm (pa_cons ha pa_nil hs) hs) fun σ H R ⟨W, en, S, I, S', hE, hS, hm, q⟩ => by
  unfold iEnm at hm
  obtain ⟨⟨d, S1⟩, h1, hm⟩ := Option.bind_eq_some_iff.mp hm
  dsimp only at hm
  split at hm
  · cases hm
  · cases hm
  · rename_i n1 n2
    obtain ⟨I1, h2, hm⟩ := Option.map_eq_some_iff.mp hm
    cases hm
    refine ⟨W, en, S, _, _, hE, hS, h1, fun v W' H' st r s => ?_⟩
    obtain ⟨a, vs, rfl, h3, h4⟩ := itsOf_list r s h2 n1 n2
    refine ⟨a, vs, rfl, h3, q _ W' H' st s ?_⟩
    refine ⟨fun H => ∃ vs, SqL X.K H a vs ∧ vs.length = I1.items.length, fun i H v H' => ∃ T x, v = .ref T ∧ H T = none ∧ H' = upd H T (.tup [.int (i : Nat), x]) ∧ ∀ xs, SqL X.K H a xs → xs[i]? = some x, ?_, fun W2 H2 S2 m s2 st => ?_⟩
    · show Walk _ (pairsI 0 I1.items).length _ _
      rw [pairsI_len]
      exact ⟨fun i H hi ⟨vs, q, e⟩ => ⟨vs, vs[i]'(by omega), q, by simp⟩, fun H ⟨vs, q, e⟩ => ⟨vs, q, by omega⟩, fun i H x H' hi _ y => y⟩
    · obtain ⟨vs2, q2, r2⟩ := h4 W2 H2 S2 m s2 st
      refine ⟨⟨vs2, q2, r2.length⟩, fun i x H3 hi y => ?_⟩
      obtain ⟨T, x, rfl, hT, rfl, y⟩ := y
      obtain ⟨d, h5, h6⟩ := r2.getV (y vs2 q2)
      have e := pairsI_get 0 _ _ _ h5
      rw [Nat.zero_add] at e
      obtain ⟨z1, z2, z3⟩ := new_pair hT s2 (.int ((i : Nat) : Int)) h6
      exact ⟨_, e, z1, z2, z3⟩
/-- zip of two lists, of two tuples -/
def zipD : List D → List D → List D
  | x :: xs, y :: ys => .tup [x, y] :: zipD xs ys
  | _, _ => []
theorem zipD_len : ∀ (xs ys : List D), (zipD xs ys).length = min xs.length ys.length
  | [], _ => by simp [zipD]
  | _ :: _, [] => by simp [zipD]
  | x :: xs, y :: ys => by simp [zipD, zipD_len xs ys]
theorem zipD_get : ∀ (xs ys : List D) (i : Nat) (c d : D), xs[i]? = some c → ys[i]? = some d → (zipD xs ys)[i]? = some (.tup [c, d])
  | [], _, _, _, _, h, _ => by simp at h
  | _ :: _, [], _, _, _, _, h => by simp at h
  | x :: xs, y :: ys, 0, c, d, h, h' => by simp at h h'; subst h h'; rfl
  | x :: xs, y :: ys, i + 1, c, d, h, h' => by simp only [zipD, List.getElem?_cons_succ]; exact zipD_get xs ys i c d (by simpa using h) (by simpa using h')
def tupOf : D → Option (List D)
  | .tup xs => some xs
  | _ => none
def isStrD : D → Bool
  | .str _ => true
  | _ => false
theorem tupOf_some {d : D} {xs : List D} (h : tupOf d = some xs) : d = .tup xs := by
  cases d <;> cases h; rfl
def zipIt (S : Store) (c d : D) : Option Its := match tupOf c, tupOf d with
  | some xs, some ys => some ⟨zipD xs ys, []⟩
  | none, none => if isStrD c || isStrD d then none else (itsOf S c).bind fun I => (itsOf S d).map fun I2 => ⟨zipD I.items I2.items, I.dep ++ I2.dep⟩
  | _, _ => none
def iZip2 (m m2 : M) : MI := fun e S => (m e S).bind fun x => (m2 e x.2).bind fun y => (zipIt y.2 x.1 y.1).map fun I => (I, y.2)
theorem still_app {S : Store} {xs ys : List D} {d1 d2 : List (Nat × D)} {zs : List D} (h : still S ⟨zs, d1 ++ d2⟩ = true) : still S ⟨xs, d1⟩ = true ∧ still S ⟨ys, d2⟩ = true := by
  unfold still at *
  rw [List.all_append] at h
  exact Bool.and_eq_true_iff.mp h
theorem si_zip {elts : List Expr} {kk : Nat} {tpos : Pos} (hg : Gl X "zip") (hm : X.mg "zip" = none) (ha : SE X a m) (hb : SE X b mb) (hs : starEach [a, b] X.env = (false, eval a X.env) :: starEach [b] X.env := by rfl) (hpl : (backTo pos (starEach [b] X.env)).any (·.1) = false := by rfl) (hs2 : starEach [b] X.env = (false, eval b X.env) :: starEach [] X.env := by rfl) :
    SI X (.Tuple elts kk tpos) (.Call (.Name "zip" p) [a, b] [] pos) (iZip2 m mb) := pi_imp (RZ.pi_zipA hg hm (pa_cons ha (pa_cons hb pa_nil hs2) hs) hs hpl) fun σ H R ⟨W, en, S, I, S', hE, hS, hm, q⟩ => by
  unfold iZip2 at hm
  obtain ⟨⟨d, S1⟩, h1, hm⟩ := Option.bind_eq_some_iff.mp hm
  obtain ⟨⟨d2, S2⟩, h2, hm⟩ := Option.bind_eq_some_iff.mp hm
  obtain ⟨I0, h0, hm⟩ := Option.map_eq_some_iff.mp hm
  cases hm
  unfold zipIt at h0
  dsimp only at h0 h2
  split at h0
  · rename_i xs0 ys0 ex ey
    cases h0
    cases tupOf_some ex
    cases tupOf_some ey
    refine ⟨W, en, S, _, _, hE, hS, h1, fun v W1 H1 st1 r1 s1 => ⟨W1, en, S1, _, _, hE.mono st1, s1, h2, fun v2 W' H' st r s => ?_⟩⟩
    have r1 := r1.mono st
    cases r1 with
    | @tup a vs xs h3 r3 =>
      cases r with
      | @tup b us ys h4 r4 =>
        refine ⟨a, b, vs, us, rfl, .inr ⟨h3, h4, q _ W' H' (st1.trans st) s ?_⟩⟩
        refine ⟨fun H => SqT X.K H a vs ∧ SqT X.K H b us, fun i H v H' => ∃ T x y, v = .ref T ∧ H T = none ∧ H' = upd H T (.tup [x, y]) ∧ vs[i]? = some x ∧ us[i]? = some y, ?_, fun W2 H2 S2 m s2 st => ?_⟩
        · show Walk _ (zipD xs0 ys0).length _ _
          rw [zipD_len, ← r3.length, ← r4.length]
          refine ⟨fun i H hi q => ?_, fun H q => ⟨vs, us, q.1, q.2, by omega⟩, fun i H x H' hi q y => ?_⟩
          · have h5 : i < vs.length := by omega
            have h6 : i < us.length := by omega
            exact ⟨vs, us, vs[i], us[i], q.1, q.2, by simp, by simp⟩
          · obtain ⟨T, x, z, h5, h6, h7, h8, h9⟩ := y
            exact ⟨T, x, z, h5, h6, h7, h8 vs q.1, h9 us q.2⟩
        · have t1 := m.sqT h3
          have t2 := m.sqT h4
          refine ⟨⟨t1, t2⟩, fun i x H3 hi y => ?_⟩
          obtain ⟨T, x, z, rfl, hT, rfl, e1, e2⟩ := y
          obtain ⟨c1, h5, h6⟩ := (r3.mv m).getV e1
          obtain ⟨c2, h7, h8⟩ := (r4.mv m).getV e2
          obtain ⟨z1, z2, z3⟩ := new_pair hT s2 h6 h8
          exact ⟨_, zipD_get _ _ _ _ _ h5 h7, z1, z2, z3⟩
  · rename_i ex ey
    split at h0
    · cases h0
    rename_i nstr
    obtain ⟨I1, h3, h0⟩ := Option.bind_eq_some_iff.mp h0
    obtain ⟨I2, h4, h0⟩ := Option.map_eq_some_iff.mp h0
    cases h0
    have n4 : ∀ xs, d ≠ .tup xs := fun xs e => by subst e; cases ex
    have n5 : ∀ xs, d2 ≠ .tup xs := fun xs e => by subst e; cases ey
    have n2 : ∀ xs, d ≠ .str xs := fun xs e => by subst e; exact nstr rfl
    have n3 : ∀ xs, d2 ≠ .str xs := fun xs e => by subst e; exact nstr (by simp [isStrD])
    refine ⟨W, en, S, _, _, hE, hS, h1, fun v W1 H1 st1 r1 s1 => ⟨W1, en, S1, _, _, hE.mono st1, s1, h2, fun v2 W' H' st r s => ?_⟩⟩
    obtain ⟨a, vs, rfl, q1, l1⟩ := itsOf_list (r1.mono st) s h3 n4 n2
    obtain ⟨b, us, rfl, q2, l2⟩ := itsOf_list r s h4 n5 n3
    refine ⟨a, b, vs, us, rfl, .inl ⟨q1, q2, q _ W' H' (st1.trans st) s ?_⟩⟩
    refine ⟨fun H => ∃ vs us, SqL X.K H a vs ∧ SqL X.K H b us ∧ vs.length = I1.items.length ∧ us.length = I2.items.length, fun i H v H' => ∃ T x y, v = .ref T ∧ H T = none ∧ H' = upd H T (.tup [x, y]) ∧ (∀ xs, SqL X.K H a xs → xs[i]? = some x) ∧ ∀ ys, SqL X.K H b ys → ys[i]? = some y, ?_, fun W2 H2 S2 m s2 st => ?_⟩
    · show Walk _ (zipD I1.items I2.items).length _ _
      rw [zipD_len]
      refine ⟨fun i H hi ⟨vs, us, q1, q2, e1, e2⟩ => ?_, fun H ⟨vs, us, q1, q2, e1, e2⟩ => ⟨vs, us, q1, q2, by omega⟩, fun i H x H' hi _ y => y⟩
      have h5 : i < vs.length := by omega
      have h6 : i < us.length := by omega
      exact ⟨vs, us, vs[i], us[i], q1, q2, by simp, by simp⟩
    · obtain ⟨st1, st2⟩ := still_app (xs := I1.items) (ys := I2.items) st
      obtain ⟨vs2, t1, r2⟩ := l1 W2 H2 S2 m s2 st1
      obtain ⟨us2, t2, r3⟩ := l2 W2 H2 S2 m s2 st2
      refine ⟨⟨vs2, us2, t1, t2, r2.length, r3.length⟩, fun i x H3 hi y => ?_⟩
      obtain ⟨T, x, z, rfl, hT, rfl, e1, e2⟩ := y
      obtain ⟨c1, h5, h6⟩ := r2.getV (e1 _ t1)
      obtain ⟨c2, h7, h8⟩ := r3.getV (e2 _ t2)
      obtain ⟨z1, z2, z3⟩ := new_pair hT s2 h6 h8
      exact ⟨_, zipD_get _ _ _ _ _ h5 h7, z1, z2, z3⟩
  · cases h0
end
end MM
set_option maxRecDepth 100000
set_option maxHeartbeats 2000000
namespace MM
open PySem PySem.Spec PyProof.Rows L2
variable [TB : Tabl]
/-! ### for -/
def loopF (I : Its) (p : PTg) (body : MS) : List D → MEnv → Store → Option (Fl × MEnv × Store)
  | [], e, S => if still S I = true then some (.nx, e, S) else none
  | x :: xs, e, S => if still S I = true then (p x e).bind fun e1 => (body e1 S).bind fun r => match r.1 with
      | .nx => loopF I p body xs r.2.1 r.2.2
      | .ct => loopF I p body xs r.2.1 r.2.2
      | .bk => some (.nx, r.2.1, r.2.2)
      | .rt d => some (.rt d, r.2.1, r.2.2)
    else none
def sFor (mi : MI) (p : PTg) (body : MS) : MS := fun e S => (mi e S).bind fun x => loopF x.1 p body x.1.items e x.2
theorem drop_get {α : Type} {l : List α} {i : Nat} {x : α} (h : l[i]? = some x) : l.drop i = x :: l.drop (i + 1) := by
  obtain ⟨h1, h2⟩ := List.getElem?_eq_some_iff.mp h
  rw [List.drop_eq_getElem_cons h1, h2]
theorem loopF_still {I : Its} {p : PTg} {body : MS} {l : List D} {e : MEnv} {S : Store} {r : Fl × MEnv × Store} (h : loopF I p body l e S = some r) : still S I = true := by
  cases l <;> (unfold loopF at h; split at h <;> first | assumption | cases h)
section
variable {X : Cx} {tg iter c : Expr} {body : List Stmt} {pos : Pos} {mi : MI} {p : PTg} {vs : List Nat} {ms : MS} {t : MT}
theorem s1_for (hp : PassesOwn (model X.prog X.w) X.A X.env X.xe) (hc : X.calm = true) (hi : SI X tg iter mi) (hg : SG X tg p vs) (hb : SS X body ms) (hs : ∀ x, foldedSetIterable iter X.env x = pure x := by intro _; rfl) : S1 X (.For tg iter body [] pos) (sFor mi p ms) :=
  ps_imp (ps_for hp hc hi hg hb hs) fun D σ H ⟨W, en, S, f, e', S', hE, hS, hm, q⟩ => by
    unfold sFor at hm
    obtain ⟨⟨I, S1⟩, h1, hm⟩ := Option.bind_eq_some_iff.mp hm
    dsimp only at hm
    refine ⟨W, en, S, I, S1, hE, hS, h1, fun J W1 H1 st1 s1 ⟨G, Y, w, hG⟩ => ?_⟩
    have q := q.mono st1
    refine for_it w (fun i σ2 H2 => ∃ W2 e2 S2, Step W1 H1 W2 H2 ∧ EnvOk X.K X.mg H2 W2 σ2 e2 ∧ StoreOk X.K X.mg H2 W2 S2 ∧ loopF I p ms (I.items.drop i) e2 S2 = some (f, e', S'))
      ⟨W1, en, S1, .refl, hE.mono st1, s1, hm⟩ (fun i σ2 H2 hi ⟨W2, e2, S2, st, hE2, s2, hl⟩ => (hG W2 H2 S2 st.mv s2 (loopF_still hl)).1) ?_ ?_
    · intro i x σ2 H2 H3 hi ⟨W2, e2, S2, st, hE2, s2, hl⟩ y
      obtain ⟨d, h5, st3, r3, s3⟩ := (hG W2 H2 S2 st.mv s2 (loopF_still hl)).2 i x H3 hi y
      rw [drop_get h5] at hl
      unfold loopF at hl
      rw [if_pos (by split at hl <;> first | assumption | cases hl)] at hl
      obtain ⟨e3, h6, hl⟩ := Option.bind_eq_some_iff.mp hl
      obtain ⟨⟨f4, e4, S4⟩, h7, hl⟩ := Option.bind_eq_some_iff.mp hl
      refine ⟨W2, e2, d, e3, hE2.mono st3, r3, h6, fun σ3 hE3 _ => ⟨W2, e3, S2, f4, e4, S4, hE3, s3, h7, ?_⟩⟩
      have stA := st.trans st3
      cases f4 with
      | nx => exact fun σ5 W5 H5 st5 hE5 s5 => ⟨W5, e4, S4, stA.trans st5, hE5, s5, hl⟩
      | ct => exact fun σ5 W5 H5 st5 hE5 s5 => ⟨W5, e4, S4, stA.trans st5, hE5, s5, hl⟩
      | bk =>
        cases hl
        exact fun σ5 W5 H5 st5 hE5 s5 => q σ5 W5 H5 (stA.trans st5) hE5 s5
      | rt d5 =>
        cases hl
        exact fun v5 W5 H5 st5 r5 s5 => q v5 W5 H5 (stA.trans st5) r5 s5
    · intro σ2 H2 ⟨W2, e2, S2, st, hE2, s2, hl⟩
      rw [List.drop_eq_nil_of_le (Nat.le_refl _)] at hl
      unfold loopF at hl
      rw [if_pos (by split at hl <;> first | assumption | cases hl)] at hl
      cases hl
      exact q σ2 W2 H2 st hE2 s2
/-! ### while -/
def loopW (t : MT) (body : MS) : Nat → MEnv → Store → Option (Fl × MEnv × Store)
  | 0, _, _ => none
  | n + 1, e, S => (t e S).bind fun b => if b.1 = true then (body e b.2).bind fun r => match r.1 with
      | .nx => loopW t body n r.2.1 r.2.2
      | .ct => loopW t body n r.2.1 r.2.2
      | .bk => some (.nx, r.2.1, r.2.2)
      | .rt d => some (.rt d, r.2.1, r.2.2)
    else some (.nx, e, b.2)
def sWhile (n : Nat) (t : MT) (body : MS) : MS := fun e S => loopW t body n e S
theorem s1_while (n : Nat) (hp : PassesOwn (model X.prog X.w) X.A X.env X.xe) (hc : ST X c t) (hb : SS X body ms) : S1 X (.While c body [] pos) (sWhile n t ms) :=
  ps_imp (ps_while hp hc hb) fun D σ H ⟨W, en, S, f, e', S', hE, hS, hm, q⟩ => by
    refine ⟨fun m σ2 H2 => ∃ W2 e2 S2, Step W H W2 H2 ∧ EnvOk X.K X.mg H2 W2 σ2 e2 ∧ StoreOk X.K X.mg H2 W2 S2 ∧ loopW t ms m e2 S2 = some (f, e', S'), ⟨n, W, en, S, .refl, hE, hS, hm⟩, fun m σ2 H2 ⟨W2, e2, S2, st, hE2, s2, hl⟩ => ?_⟩
    cases m with
    | zero => cases hl
    | succ m =>
      unfold loopW at hl
      obtain ⟨⟨b, S3⟩, h3, hl⟩ := Option.bind_eq_some_iff.mp hl
      refine ⟨W2, e2, S2, b, S3, hE2, s2, h3, fun W3 H3 st3 s3 => ?_⟩
      have stA := st.trans st3
      cases b with
      | false =>
        have hl : some (Fl.nx, e2, S3) = some (f, e', S') := by simpa using hl
        cases hl
        exact iteF (q σ2 W3 H3 stA (hE2.mono st3) s3)
      | true =>
        refine iteT ⟨fun σ4 H4 => ∃ W4 e4 S4, Step W H W4 H4 ∧ EnvOk X.K X.mg H4 W4 σ4 e4 ∧ StoreOk X.K X.mg H4 W4 S4 ∧ loopW t ms m e4 S4 = some (f, e', S'), fun σ4 H4 h4 => ⟨m, Nat.lt_succ_self _, h4⟩, ?_⟩
        rw [if_pos rfl] at hl
        obtain ⟨⟨f4, e4, S4⟩, h7, hl⟩ := Option.bind_eq_some_iff.mp hl
        refine ⟨W3, e2, S3, f4, e4, S4, hE2.mono st3, s3, h7, ?_⟩
        cases f4 with
        | nx => exact fun σ5 W5 H5 st5 hE5 s5 => ⟨W5, e4, S4, stA.trans st5, hE5, s5, hl⟩
        | ct => exact fun σ5 W5 H5 st5 hE5 s5 => ⟨W5, e4, S4, stA.trans st5, hE5, s5, hl⟩
        | bk =>
          cases hl
          exact fun σ5 W5 H5 st5 hE5 s5 => q σ5 W5 H5 (stA.trans st5) hE5 s5
        | rt d5 =>
          cases hl
          exact fun v5 W5 H5 st5 r5 s5 => q v5 W5 H5 (stA.trans st5) r5 s5
end
/-! ### comprehensions -/
def loopC (I : Its) (e0 : MEnv) (p : PTg) (tt : MT) (me : M) : List D → Store → List D → Option (List D × Store)
  | [], S, acc => if still S I = true then some (acc, S) else none
  | x :: xs, S, acc => if still S I = true then (p x e0).bind fun e1 => (tt e1 S).bind fun b => if b.1 = true then (me e1 b.2).bind fun y => loopC I e0 p tt me xs y.2 (acc ++ [y.1]) else loopC I e0 p tt me xs b.2 acc else none
def mComp (mi : MI) (vs : List Nat) (p : PTg) (tt : MT) (me : M) : M := fun e S => (mi e S).bind fun x => if x.1.items.length ≤ 4000 then (loopC x.1 (wipeE e vs) p tt me x.1.items x.2 []).map fun r => (.lst r.1, r.2) else none
def tTrue : MT := fun _ S => some (true, S)
abbrev STs (X : Cx) (ifs : List Expr) (t : MT) : Prop := L2.PTs X ifs (tTs X.K X.mg t)
theorem pts_imp {X : Cx} {ifs : List Expr} {t t' : TT} (h : L2.PTs X ifs t) (i : ∀ σ H Q, t' σ H Q → t σ H Q) : L2.PTs X ifs t' := ⟨fun pins s σ H Q I q => h.run pins s σ H Q I (i _ _ _ q)⟩
theorem sts_nil {X : Cx} : STs X [] tTrue := pts_imp pts_nil fun σ H Q ⟨W, en, S, d, S', hE, hS, hm, q⟩ => by
  cases hm
  exact q W H .refl hS
theorem sts_one {X : Cx} {c : Expr} {t : MT} (h : ST X c t) : STs X [c] t := pts_one h
theorem loopC_still {I : Its} {e0 : MEnv} {p : PTg} {tt : MT} {me : M} {l acc : List D} {S : Store} {r : List D × Store} (h : loopC I e0 p tt me l S acc = some r) : still S I = true := by
  cases l <;> (unfold loopC at h; split at h <;> first | assumption | cases h)
section
variable {K : PySem.W.Frag} {mg : Str → Option Value}
/-- the list at D grows, nothing else sees it -/
theorem Mv.grow {H : Hp} {W : Wd} {D : Addr} {us vs : List V} (h : H D = some (.lst us)) (hx : D ∈ W.x) : Mv W H W (upd H D (.lst vs)) := by
  have ne : ∀ b o, H b = some o → (∀ ws, o ≠ .lst ws) → b ≠ D := fun b o e n z => by subst z; rw [h] at e; cases e; exact n _ rfl
  refine ⟨fun a o e f _ => ⟨?_, f⟩, fun b ws e => ?_, fun b o u e => ?_, fun _ _ h => h⟩
  · rw [upd_ne (fun z => f.2 (by rw [z]; exact hx))]; exact e
  · rw [upd_ne (ne b _ e fun _ => by simp)]; exact e
  · rw [upd_ne (ne b _ e fun _ => by simp)]; exact e
theorem StoreOk.grow {H : Hp} {W : Wd} {S : Store} {D : Addr} {us vs : List V} (s : StoreOk K mg H W S) (h : H D = some (.lst us)) (hx : D ∈ W.x) : StoreOk K mg (upd H D (.lst vs)) W S := by
  have nr : ∀ a ∈ W.r, a ≠ D := fun a ha z => s.ap a ha (by rw [z]; exact hx)
  have mv := Mv.grow (vs := vs) h hx
  refine ⟨s.len, s.nd, s.ap, fun a ha => ?_, fun n a d h1 h2 => ?_, s.tb.put h (fun _ => by simp) (fun _ _ => by unfold LamX.CodeO; simp) fun b o n e _ => by rw [upd_ne n]; exact e⟩
  · by_cases z : a = D
    · subst z; exact ⟨_, upd_same⟩
    · obtain ⟨o, e⟩ := s.xt a ha
      exact ⟨o, by rw [upd_ne z]; exact e⟩
  · have na := nr a (List.mem_of_getElem? h1)
    cases s.at_ n a d h1 h2 with
    | lst h r => exact .lst (by rw [upd_ne na]; exact h) (r.mv mv)
    | dicK h e r => exact .dicK (by rw [upd_ne na]; exact h) e (r.mv mv)
    | dicT h e r => exact .dicT (by rw [upd_ne na]; exact h) e (r.mv mv)
    | obj f2 hc n h g2 r => exact .obj f2 hc n (by rw [upd_ne na]; exact h) (mv.fz _ _ g2 f2 ⟨fun _ => by simp, fun _ => by simp⟩).1 (r.mv mv)
    | obj0 hc n hw h g2 => exact .obj0 hc n hw (by rw [upd_ne na]; exact h) (by rw [upd_ne (fun z => by subst z; exact hw hx)]; exact g2)
/-- a step with one more address avoided is one without -/
theorem Step.unpush {H H' : Hp} {W W' : Wd} {D : Addr} (s : Step (W.push D) H W' H') : Step W H ⟨W'.r, W.x⟩ H' ∧ W' = (⟨W'.r, W.x⟩ : Wd).push D := by
  refine ⟨⟨rfl, s.r, s.th, s.fr, s.tups, s.frzs⟩, ?_⟩
  have := s.x
  cases W'
  simp only [Wd.push] at this ⊢
  rw [this]
theorem Step.updNew {H H' : Hp} {W W' : Wd} {D : Addr} {o : HO} (s : Step W H W' H') (h : H D = none) : Step W H W' (upd H' D o) := by
  have ne : ∀ b u, H b = some u → b ≠ D := fun b u e => ne_of_none e h
  exact ⟨s.x, s.r, fun b u e => let ⟨o', q⟩ := s.th b u e; ⟨o', by rw [upd_ne (ne b u e)]; exact q⟩, fun b u e n nt no => by rw [upd_ne (ne b u e)]; exact s.fr b u e n nt no, fun b us e => by rw [upd_ne (ne b _ e)]; exact s.tups b us e, fun b o u e => by rw [upd_ne (ne b _ e)]; exact s.frzs b o u e⟩
end
section
variable {X : Cx} {elt tg iter : Expr} {ifs : List Expr} {scope : Scope} {own : List (Str × Nat)} {pos : Pos} {mi : MI} {p : PTg} {tt : MT} {me : M}
/-- the reading of a comprehension -/
theorem comp_ok {K : PySem.W.Frag} {mg : Str → Option Value} {vs : List Nat} {σ : L2.St} {H : Hp} {Q : VK} (h : tCr K mg (mComp mi vs p tt me) σ H Q) : tLc (tI K mg mi) (tG K mg p vs) (tTs K mg tt) (tE K mg me) vs σ H Q := by
  obtain ⟨W, en, S, d, S', hE, hS, hm, q⟩ := h
  unfold mComp at hm
  obtain ⟨⟨I, S1⟩, h1, hm⟩ := Option.bind_eq_some_iff.mp hm
  dsimp only at hm
  split at hm
  case isFalse => cases hm
  rename_i hz
  obtain ⟨⟨out, Sf⟩, h2, hm⟩ := Option.map_eq_some_iff.mp hm
  cases hm
  refine ⟨W, en, S, I, S1, hE, hS, h1, fun J W1 H1 st1 s1 ⟨G, Y, w, hG⟩ => fun D hD => ?_⟩
  refine lc_it w (fun i H2 => ∃ W2 S2 acc accV, Step W1 H1 W2 H2 ∧ H2 D = some (.lst accV) ∧ D ∉ W2.r ∧ accV.length ≤ i ∧ Reps K mg H2 (W2.push D) accV acc ∧ StoreOk K mg H2 (W2.push D) S2 ∧ loopC I (wipeE en vs) p tt me (I.items.drop i) S2 acc = some (out, Sf))
    ⟨W1, S1, [], [], .laid hD, upd_same, s1.nw hD, Nat.zero_le _, .nil, s1.laidPush hD, h2⟩ (fun i H2 hi ⟨W2, S2, acc, accV, st, hd, nr, hl, r2, s2, hlp⟩ => (hG _ H2 S2 (st.mvPush hD) s2 (loopC_still hlp)).1) ?_ ?_
  · intro i x H2 H3 hi ⟨W2, S2, acc, accV, st, hd, nr, hl, r2, s2, hlp⟩ y
    obtain ⟨d, h5, st3, r3, s3⟩ := (hG _ H2 S2 (st.mvPush hD) s2 (loopC_still hlp)).2 i x H3 hi y
    rw [drop_get h5] at hlp
    unfold loopC at hlp
    rw [if_pos (by split at hlp <;> first | assumption | cases hlp)] at hlp
    obtain ⟨e3, h6, hlp⟩ := Option.bind_eq_some_iff.mp hlp
    obtain ⟨⟨b, S4⟩, h7, hlp⟩ := Option.bind_eq_some_iff.mp hlp
    have nx : ∀ (W5 : Wd) (H5 : Hp), Step (W2.push D) H2 W5 H5 → H5 D = some (.lst accV) ∧ D ∉ W5.r ∧ Step W1 H1 ⟨W5.r, W2.x⟩ H5 ∧ W5 = (⟨W5.r, W2.x⟩ : Wd).push D := fun W5 H5 st5 => by
      obtain ⟨u1, u2⟩ := st5.unpush
      exact ⟨st5.fr D _ hd nr (fun _ => by simp) fun _ => by simp, fun z => (st5.new z).elim nr (fun z => by rw [hd] at z; cases z), st.trans u1, u2⟩
    have hE1 : EnvOk K mg H3 (W2.push D) σ en := ((hE.mono st1).mv (st.mvPush hD)).mono st3
    refine ⟨W2.push D, wipeE en vs, d, e3, hE1.wipe vs, r3, h6, fun σ4 hE4 hw => ⟨by rw [hw, wipe_wipe fun v hv => hv], W2.push D, e3, S2, b, S4, hE4, s3, h7, fun W5 H5 st5 s5 => ?_⟩⟩
    cases b with
    | true =>
      rw [if_pos rfl] at hlp
      obtain ⟨⟨y6, S6⟩, h8, hlp⟩ := Option.bind_eq_some_iff.mp hlp
      refine iteT ⟨W5, e3, S4, y6, S6, hE4.mono st5, s5, h8, fun v6 W6 H6 st6 r6 s6 => ?_⟩
      have stA := (st3.trans st5).trans st6
      obtain ⟨n1, n2, n3, n4⟩ := nx W6 H6 stA
      have hx : D ∈ W6.x := by rw [n4]; exact List.mem_cons_self
      have mv := Mv.grow (vs := accV ++ [v6]) n1 hx
      refine ⟨accV, n1, line_big (by omega), ⟨W6.r, W2.x⟩, S6, acc ++ [y6], accV ++ [v6], n3.updNew hD, upd_same, n2, by simp; omega, ?_, ?_, hlp⟩
      · rw [← n4]
        exact ((r2.mono stA).append (.cons r6 .nil)).mv mv
      · rw [← n4]
        exact s6.grow n1 hx
    | false =>
      rw [if_neg Bool.false_ne_true] at hlp
      have stA := st3.trans st5
      obtain ⟨n1, n2, n3, n4⟩ := nx W5 H5 stA
      refine iteF ⟨⟨W5.r, W2.x⟩, S4, acc, accV, n3, n1, n2, by omega, ?_, ?_, hlp⟩
      · rw [← n4]; exact r2.mono stA
      · rw [← n4]; exact s5
  · intro H2 ⟨W2, S2, acc, accV, st, hd, nr, hl, r2, s2, hlp⟩
    rw [List.drop_eq_nil_of_le (Nat.le_refl _)] at hlp
    unfold loopC at hlp
    rw [if_pos (by split at hlp <;> first | assumption | cases hlp)] at hlp
    cases hlp
    refine q D W2 H2 (st1.trans st) (st1.free hD) nr (fun z => ?_) (.lst hd r2) s2
    have := s1.nx hD
    rw [st.x] at z
    exact this z
theorem sc_comp (hc : X.calm = true) (hN : X.N.Nodup) (hi : SI X tg iter mi) (ok : BlkOk X.N X.env.scope scope own)
    (hg : ∀ (s : Shared) (H : Hp) (C : Addr) (cl : List (Str × Addr)) (fp : List Addr), SG (X.blk s H scope (compEnvC scope cl C X.env) fp) tg p (own.map (·.2))) (ht : ∀ (s : Shared) (H : Hp) (C : Addr) (cl : List (Str × Addr)) (fp : List Addr), STs (X.blk s H scope (compEnvC scope cl C X.env) fp) ifs tt)
    (he : ∀ (s : Shared) (H : Hp) (C : Addr) (cl : List (Str × Addr)) (fp : List Addr), SE (X.blk s H scope (compEnvC scope cl C X.env) fp) elt me) (hs : ∀ x, foldedSetIterable iter X.env x = pure x := by intro _; rfl) :
    SC X (.ListComp elt [⟨tg, iter, ifs, 0⟩] scope pos) (mComp mi (own.map (·.2)) p tt me) := pe_imp (pe_lc hc hN hi ok hg ht he hs) fun _ _ _ => comp_ok
/-- name = [..] on one line: the list stays frozen, or becomes a cell -/
theorem s1_comp {i : Nat} {y : Str} {py spos : Pos} (hc : X.calm = true) (hN : X.N.Nodup) (hy : X.N[i]? = some y) (hyl : X.env.scope.names.lookup y = some .local) (hi : SI X tg iter mi) (ok : BlkOk X.N X.env.scope scope own)
    (hg : ∀ (s : Shared) (H : Hp) (C : Addr) (cl : List (Str × Addr)) (fp : List Addr), SG (X.blk s H scope (compEnvC scope cl C X.env) fp) tg p (own.map (·.2))) (ht : ∀ (s : Shared) (H : Hp) (C : Addr) (cl : List (Str × Addr)) (fp : List Addr), STs (X.blk s H scope (compEnvC scope cl C X.env) fp) ifs tt)
    (he : ∀ (s : Shared) (H : Hp) (C : Addr) (cl : List (Str × Addr)) (fp : List Addr), SE (X.blk s H scope (compEnvC scope cl C X.env) fp) elt me) (hs : ∀ x, foldedSetIterable iter X.env x = pure x := by intro _; rfl)
    (hsw : swapsWith (.ListComp elt [⟨tg, iter, ifs, 0⟩] scope pos) (some (.Name y py)) spos.line X.env = pure true := by exact sw_true rfl rfl rfl (by decide +kernel)) :
    S1 X (.Assign [.Name y py] (.ListComp elt [⟨tg, iter, ifs, 0⟩] scope pos) spos) (sSet i (mComp mi (own.map (·.2)) p tt me)) ∧ S1 X (.Assign [.Name y py] (.ListComp elt [⟨tg, iter, ifs, 0⟩] scope pos) spos) (sSet i (mNew (mComp mi (own.map (·.2)) p tt me))) := by
  have key := ps_setLc (te := tE X.K X.mg me) (g := tG X.K X.mg p (own.map (·.2))) (tt := tTs X.K X.mg tt) (i := i) (y := y) (py := py) (pos := pos) (spos := spos) hc hN hy hyl hsw hi ok hg ht he hs
  refine ⟨ps_imp key fun D σ H ⟨W, en, S, f, e', S', hE, hS, hm, q⟩ => ?_, ps_imp key fun D σ H ⟨W, en, S, f, e', S', hE, hS, hm, q⟩ => ?_⟩
  · unfold sSet at hm
    obtain ⟨⟨d1, S1⟩, e1, hm⟩ := Option.map_eq_some_iff.mp hm
    cases hm
    refine comp_ok ⟨W, en, S, d1, _, hE, hS, e1, fun p W1 H1 st hp np nx hh hs => ?_⟩
    exact q _ W1 H1 st ((hE.mono st).set (hh.frz np nx) i) hs.pop
  · unfold sSet mNew at hm
    obtain ⟨⟨d1, S1⟩, e1, hm⟩ := Option.map_eq_some_iff.mp hm
    obtain ⟨⟨d2, S2⟩, e2, hm2⟩ := Option.bind_eq_some_iff.mp e1
    cases hm2
    cases hm
    refine comp_ok ⟨W, en, S, d2, S2, hE, hS, e2, fun p W1 H1 st hp np nx hh hs => ?_⟩
    have so := hs.own np nx hh
    have st' : Step W H (W1.own p) H1 := ⟨st.x, by
      obtain ⟨m, e1, e2⟩ := st.r
      refine ⟨m ++ [p], by show W1.r ++ [p] = _; rw [e1, List.append_assoc], fun a ha => ?_⟩
      rcases List.mem_append.mp ha with z | z
      · exact e2 a z
      · rw [List.mem_singleton.mp z]; exact hp, st.th, st.fr, st.tups, st.frzs⟩
    refine q _ (W1.own p) H1 st' ((hE.mono st').set (v := .ref p) (.loc ?_) i) so
    show (W1.r ++ [p])[S2.length]? = some p
    have : S2.length = W1.r.length := hs.len
    rw [this]; simp
end
end MM
set_option maxRecDepth 100000
set_option maxHeartbeats 2000000
namespace MM
open PySem PySem.Spec PyProof.Rows L2
variable [TB : Tabl]
/-! ### cells that change -/
section
variable {K : PySem.W.Frag} {mg : Str → Option Value}
theorem Step.cell {H : Hp} {W : Wd} {a : Addr} {vs us : List V} (ha : a ∈ W.r) (h : H a = some (.lst vs)) : Step W H W (upd H a (.lst us)) := by
  have ne : ∀ b o, H b = some o → (∀ ws, o ≠ .lst ws) → b ≠ a := fun b o e n z => by subst z; rw [h] at e; cases e; exact n _ rfl
  refine ⟨rfl, ⟨[], by simp, by simp⟩, fun b o e => ?_, fun b o e n _ _ => ?_, fun b ws e => ?_, fun b o u e => ?_⟩
  · by_cases z : b = a
    · subst z; exact ⟨_, upd_same⟩
    · exact ⟨o, by rw [upd_ne z]; exact e⟩
  · rw [upd_ne (fun z => n (by rw [z]; exact ha))]; exact e
  · rw [upd_ne (ne b _ e fun _ => by simp)]; exact e
  · rw [upd_ne (ne b _ e fun _ => by simp)]; exact e
theorem StoreOk.setL {H : Hp} {W : Wd} {S : Store} {n : Nat} {a : Addr} {vs us : List V} {xs : List D} (s : StoreOk K mg H W S) (hn : W.r[n]? = some a) (h : H a = some (.lst vs)) (r : Reps K mg H W us xs) :
    Step W H W (upd H a (.lst us)) ∧ StoreOk K mg (upd H a (.lst us)) W (S.set n (.lst xs)) := by
  have st := Step.cell (us := us) (List.mem_of_getElem? hn) h
  refine ⟨st, by rw [List.length_set]; exact s.len, s.nd, s.ap, fun b hb => st.th b _ (s.xt b hb).choose_spec, fun m b d h1 h2 => ?_, s.tb.put h (fun _ => by simp) (fun _ _ => by unfold LamX.CodeO; simp) fun b o n e _ => by rw [upd_ne n]; exact e⟩
  by_cases e : m = n
  · subst e
    rw [hn] at h1
    cases h1
    have hl : m < S.length := by rw [s.len]; exact (List.getElem?_eq_some_iff.mp hn).1
    rw [List.getElem?_set_self hl] at h2
    cases h2
    exact .lst upd_same (r.mono st)
  · have nb : b ≠ a := fun z => by
      subst z
      obtain ⟨l1, e1⟩ := List.getElem?_eq_some_iff.mp h1
      obtain ⟨l2, e2⟩ := List.getElem?_eq_some_iff.mp hn
      exact e ((List.getElem_inj s.nd).mp (e1.trans e2.symm))
    rw [List.getElem?_set_ne (fun z => e z.symm)] at h2
    exact (s.at_ m b d h1 h2).keep st (fun o q => by rw [upd_ne nb]; exact q) fun dx q => by rw [upd_ne (fun z => by subst z; rw [h] at q; cases q)]; exact q
end
def cellL (S : Store) (n : Nat) : Option (List D) := match S[n]? with
  | some (.lst xs) => some xs
  | _ => none
theorem cellL_some {S : Store} {n : Nat} {xs : List D} (h : cellL S n = some xs) : S[n]? = some (.lst xs) := by
  unfold cellL at h
  split at h
  · rename_i ys hy
    cases h; exact hy
  · cases h
def locD : D → Option Nat
  | .loc n => some n
  | _ => none
theorem locD_some {d : D} {n : Nat} (h : locD d = some n) : d = .loc n := by
  cases d <;> cases h; rfl
theorem intD_some {d : D} {n : Int} (h : intD d = some n) : d = .int n := by
  cases d <;> cases h; rfl
/-- xs.append(e) -/
def mApp (o a : M) : M := fun e S => (o e S).bind fun x => (a e x.2).bind fun y => (locD x.1).bind fun n => (cellL x.2 n).bind fun _ => (cellL y.2 n).bind fun xs =>
  if xs.length < 4000 then some (.non, y.2.set n (.lst (xs ++ [y.1]))) else none
/-- xs.extend(ys) -/
def mExt (o a : M) : M := fun e S => (o e S).bind fun x => (a e x.2).bind fun y => (locD x.1).bind fun n => (cellL x.2 n).bind fun _ => (cellL y.2 n).bind fun xs => (lstOf y.2 y.1).bind fun ys =>
  if xs.length + ys.length ≤ 4000 then some (.non, y.2.set n (.lst (xs ++ ys))) else none
/-- o[i] = v -/
def sSub (v o i : M) : MS := fun e S => (v e S).bind fun x => (o e x.2).bind fun y => (i e y.2).bind fun z => (locD y.1).bind fun n => (intD z.1).bind fun k => (cellL z.2 n).bind fun xs =>
  (ixN xs.length k).map fun j => (.nx, e, z.2.set n (.lst (xs.set j x.1)))
theorem lstOf_some {S : Store} {d : D} {xs : List D} (h : lstOf S d = some xs) : deref S d = some (.lst xs) := by
  unfold lstOf at h
  split at h
  · rename_i ys hy
    cases h; exact hy
  · cases h
section
variable {X : Cx} {o e i v : Expr} {pos apos : Pos} {mo me mi mv : M}
theorem se_append (ho : SE X o mo) (he : SE X e me) (hbase : attributeBase o "append" X.env (eval o X.env) = eval o X.env := by rfl)
    (hfew : ((backTo pos (starEach [e] X.env)).all (fun x => !x.1) && (backToKw pos (keywordEach [] X.env)).all (fun x => x.1.isSome) && decide ([e].length + ([] : List Keyword).length + (if ([] : List Keyword).isEmpty then 0 else 1) < 30)) = true := by rfl)
    (hline : (apos.endLine == pos.line) = true := by rfl) (hs : starEach [e] X.env = (false, eval e X.env) :: starEach [] X.env := by rfl) : SE X (.Call (.Attribute o "append" apos) [e] [] pos) (mApp mo me) :=
  pe_imp (pe_bm (apos := apos) (cpos := pos) PySem.F.plainAttrs_list PySem.F.slot_list_append PySem.F.type_list_append mt_append ho (pa_cons he pa_nil hs) hbase hfew hline hs rfl) fun σ H Q ⟨W, en, S, d, S', hE, hS, hm, q⟩ => by
    unfold mApp at hm
    obtain ⟨⟨d1, S1⟩, h1, hm⟩ := Option.bind_eq_some_iff.mp hm
    obtain ⟨⟨d2, S2⟩, h2, hm⟩ := Option.bind_eq_some_iff.mp hm
    obtain ⟨n, e3, hm⟩ := Option.bind_eq_some_iff.mp hm
    obtain ⟨ys, hy, hm⟩ := Option.bind_eq_some_iff.mp hm
    obtain ⟨xs, hx, hm⟩ := Option.bind_eq_some_iff.mp hm
    dsimp only at hm h2 hy hx e3
    split at hm
    · rename_i hz
      cases hm
      refine ⟨W, en, S, _, S1, hE, hS, h1, fun v1 W1 H1 st1 r1 s1 => ?_⟩
      rw [locD_some e3] at r1
      cases r1 with
      | @loc _ a hn =>
        cases s1.at_ n a _ hn (cellL_some hy) with
        | lst k1 t1 =>
          refine ⟨.inl ⟨rfl, _, .inl (.inl k1)⟩, W1, en, S1, d2, S2, hE.mono st1, s1, h2, fun v2 W2 H2 st2 r2 s2 => ?_⟩
          have hn2 := st2.get hn
          cases s2.at_ n a _ hn2 (cellL_some hx) with
          | lst k2 t2 =>
            have e1 := t2.length
            obtain ⟨st3, s3⟩ := s2.setL hn2 k2 (t2.append (.cons r2 .nil))
            exact ⟨a, _, v2, rfl, rfl, k2, by rw [e1]; exact line_big (by omega), q _ W2 _ ((st1.trans st2).trans st3) .non s3⟩
    · cases hm
theorem se_extend (ho : SE X o mo) (he : SE X e me) (hbase : attributeBase o "extend" X.env (eval o X.env) = eval o X.env := by rfl)
    (hfew : ((backTo pos (starEach [e] X.env)).all (fun x => !x.1) && (backToKw pos (keywordEach [] X.env)).all (fun x => x.1.isSome) && decide ([e].length + ([] : List Keyword).length + (if ([] : List Keyword).isEmpty then 0 else 1) < 30)) = true := by rfl)
    (hline : (apos.endLine == pos.line) = true := by rfl) (hs : starEach [e] X.env = (false, eval e X.env) :: starEach [] X.env := by rfl) : SE X (.Call (.Attribute o "extend" apos) [e] [] pos) (mExt mo me) :=
  pe_imp (pe_bm (apos := apos) (cpos := pos) PySem.F.plainAttrs_list PySem.F.slot_list_extend PySem.F.type_list_extend mt_extend ho (pa_cons he pa_nil hs) hbase hfew hline hs rfl) fun σ H Q ⟨W, en, S, d, S', hE, hS, hm, q⟩ => by
    unfold mExt at hm
    obtain ⟨⟨d1, S1⟩, h1, hm⟩ := Option.bind_eq_some_iff.mp hm
    obtain ⟨⟨d2, S2⟩, h2, hm⟩ := Option.bind_eq_some_iff.mp hm
    obtain ⟨n, e3, hm⟩ := Option.bind_eq_some_iff.mp hm
    obtain ⟨ys, hy, hm⟩ := Option.bind_eq_some_iff.mp hm
    obtain ⟨xs, hx, hm⟩ := Option.bind_eq_some_iff.mp hm
    obtain ⟨zs, hzs, hm⟩ := Option.bind_eq_some_iff.mp hm
    dsimp only at hm h2 hy hx e3 hzs
    split at hm
    · rename_i hz
      cases hm
      refine ⟨W, en, S, _, S1, hE, hS, h1, fun v1 W1 H1 st1 r1 s1 => ?_⟩
      rw [locD_some e3] at r1
      cases r1 with
      | @loc _ a hn =>
        cases s1.at_ n a _ hn (cellL_some hy) with
        | lst k1 t1 =>
          refine ⟨.inl ⟨rfl, _, .inl (.inl k1)⟩, W1, en, S1, d2, S2, hE.mono st1, s1, h2, fun v2 W2 H2 st2 r2 s2 => ?_⟩
          have hn2 := st2.get hn
          cases s2.at_ n a _ hn2 (cellL_some hx) with
          | lst k2 t2 =>
            have e1 := t2.length
            obtain ⟨b, us, rfl, k3, t3⟩ := r2.lstR s2 (lstOf_some hzs)
            have e3 := t3.length
            obtain ⟨st3, s3⟩ := s2.setL hn2 k2 (t2.append t3)
            exact ⟨a, b, _, us, rfl, rfl, k2, k3, by rw [e1, e3]; exact Nat.le_of_lt (line_big hz), q _ W2 _ ((st1.trans st2).trans st3) .non s3⟩
    · cases hm
theorem s1_sub {x1 : Pos} (hv : SE X v mv) (ho : SE X o mo) (hi : SE X i mi) (ha : ∀ v, assign (.Subscript o i x1) X.env v = (do
      let ov ← holding [v] (eval o X.env)
      let iv ← holding [v, ov] (eval i X.env)
      standAt x1
      holding [v, ov, iv] (setItem ov iv v)
      release [v, ov, iv] []) := by intro _; rfl) (hs : swapsWithSole [.Subscript o i x1] v pos.line X.env = pure false := by rfl) (hw : swappedStores [.Subscript o i x1] v X.env = pure none := by rfl)
    (h1 : (assignEach [.Subscript o i x1] X.env).map (·.2) = [assign (.Subscript o i x1) X.env] := by rfl) : S1 X (.Assign [.Subscript o i x1] v pos) (sSub mv mo mi) :=
  ps_imp (ps_asg hv (pg_sub ho hi set_list ha) hs hw h1) fun E σ H ⟨W, en, S, f, e', S', hE, hS, hm, q⟩ => by
    unfold sSub at hm
    obtain ⟨⟨d1, S1⟩, h1, hm⟩ := Option.bind_eq_some_iff.mp hm
    obtain ⟨⟨d2, S2⟩, h2, hm⟩ := Option.bind_eq_some_iff.mp hm
    obtain ⟨⟨d3, S3⟩, h3, hm⟩ := Option.bind_eq_some_iff.mp hm
    obtain ⟨n, e4, hm⟩ := Option.bind_eq_some_iff.mp hm
    obtain ⟨k, e5, hm⟩ := Option.bind_eq_some_iff.mp hm
    obtain ⟨xs, hx, hm⟩ := Option.bind_eq_some_iff.mp hm
    obtain ⟨j, e6, hm⟩ := Option.map_eq_some_iff.mp hm
    cases hm
    dsimp only at h2 h3 hx e4 e5
    cases locD_some e4
    cases intD_some e5
    refine ⟨W, en, S, d1, S1, hE, hS, h1, fun v1 W1 H1 st1 r1 s1 => ⟨W1, en, S1, _, S2, hE.mono st1, s1, h2, fun v2 W2 H2 st2 r2 s2 => ⟨W2, en, S2, _, S3, hE.mono (st1.trans st2), s2, h3, fun v3 W3 H3 st3 r3 s3 => ?_⟩⟩⟩
    have r2 := r2.mono st3
    have r1 := (r1.mono st2).mono st3
    cases r2 with
    | @loc _ a hn =>
      cases r3
      cases s3.at_ n a _ hn (cellL_some hx) with
      | lst k2 t2 =>
        obtain ⟨st4, s4⟩ := s3.setL hn k2 (Reps.set r1 j t2)
        have stA := ((st1.trans st2).trans st3).trans st4
        exact ⟨a, _, k, j, rfl, rfl, k2, by rw [t2.length]; exact e6, q σ W3 _ stA (hE.mono stA) s4⟩
end
end MM
set_option maxRecDepth 100000
set_option maxHeartbeats 400000
namespace MM
open PySem PySem.Spec PyProof.Rows L2
variable [TB : Tabl]
/-! ### defs -/
abbrev Fn := List D → Store → Option (D × Store)
def spOf (K : PySem.W.Frag) (mg : Str → Option Value) (F : Fn) (ar : Nat) : Sp := fun vs H Q _ => vs.length = ar ∧ ∃ W S ds d S', Reps K mg H W vs ds ∧ StoreOk K mg H W S ∧ F ds S = some (d, S') ∧
  ∀ v W' H', Step W H W' H' → Rep K mg H' W' v d → StoreOk K mg H' W' S' → Q v H'
def startE (n : Nat) (ds : List D) : MEnv := ds.map some ++ List.replicate (n - ds.length) none
/-- a def of n slots -/
def fnM (n : Nat) (body : MS) : Fn := fun ds S => match body (startE n ds) S with
  | some (.rt d, _, S') => some (d, S')
  | some (.nx, _, S') => some (.non, S')
  | _ => none
theorem startE_ok {K : PySem.W.Frag} {mg : Str → Option Value} {H : Hp} {W : Wd} {vs : List V} {ds : List D} {N : List Str} (r : Reps K mg H W vs ds) : EnvOk K mg H W (L2.start N vs) (startE N.length ds) := by
  have hl := r.length
  refine ⟨by simp [L2.start, startE, hl], fun i d h => ?_⟩
  unfold startE at h
  unfold L2.start
  by_cases hi : i < ds.length
  · rw [List.getElem?_append_left (by simpa using hi)] at h
    rw [List.getElem?_append_left (by simp; omega)]
    rw [List.getElem?_map] at h ⊢
    obtain ⟨d1, h1, h2⟩ := Option.map_eq_some_iff.mp h
    cases h2
    obtain ⟨v, h3, h4⟩ := r.get h1
    exact ⟨v, by rw [h3]; rfl, h4⟩
  · rw [List.getElem?_append_right (by simp; omega)] at h
    rw [List.getElem?_replicate] at h
    split at h <;> cases h
section
variable {P : Program} {w : World} {K : PySem.W.Frag} {mg : Str → Option Value} {base : Heap}
theorem fn_ok {x qual : Str} {st : Stmt} {f : Addr} {fd : FuncData} {N ps : List Str} {k ar : Nat} {ms : MS} (F : Fun K x qual st f fd) (S : FnScope N ps (defScope st)) (har : ps.length = ar)
    (hbody : ∀ (cdv : Value) (A : Around) (outer : List Env) (s : Shared) (H : Hp) (E : XK), Room k (A.deeper (envOfC qual (defScope st) s.heap.objs.size f cdv)) → SS (cxOf (L2.CX P w) P w K mg base N qual (defScope st) f cdv A outer s H E) (defBody st) ms) :
    FnOk P w K mg base (L2.CX P w) (k + 1) f fd ps (spOf K mg (fnM N.length ms) ar) := by
  refine F.okX S (fun vs H Q E h => by rw [har]; exact h.1) fun cdv A outer s H vs Q E hr ⟨hl, W, S0, ds, d, S', r, hS, hF, q⟩ => ⟨_, hbody cdv A outer s H E hr, ?_⟩
  unfold fnM at hF
  split at hF
  · rename_i d1 e1 S1 hm
    cases hF
    exact ⟨W, _, S0, _, _, _, startE_ok r, hS, hm, fun v W' H' s1 r1 o1 => q v W' H' s1 r1 o1⟩
  · rename_i e1 S1 hm
    cases hF
    exact ⟨W, _, S0, _, _, _, startE_ok r, hS, hm, fun σ' W' H' s1 r1 o1 => q .non W' H' s1 .non o1⟩
  · cases hF
/-- nothing is promised of nothing -/
theorem fn_none {f : Addr} {fd : FuncData} {ps : List Str} {k ar : Nat} (har : ps.length = ar) : FnOk P w K mg base (L2.CX P w) k f fd ps (spOf K mg (fun _ _ => none) ar) :=
  ⟨fun vs H Q E h => by rw [har]; exact h.1, fun A outer s H args us vs Q E hr e0 hb r ⟨_, W, S, ds, d, S', _, _, h, _⟩ => nomatch h⟩
end
def mCall (F : Fn) (ar : Nat) (as : MA) : M := fun e S => (as e S).bind fun x => if x.1.length = ar then F x.1 x.2 else none
mutual
/-- no cell within -/
def D.pure : D → Bool
  | .loc _ => false
  | .unset => false
  | .tup xs => D.pures xs
  | .lst xs => D.pures xs
  | .scr xs => D.pures xs
  | .dic ks vs => D.pures ks && D.pures vs
  | .obj _ fs => D.pureo fs
  | _ => true
def D.pures : List D → Bool
  | [] => true
  | x :: xs => D.pure x && D.pures xs
def D.pureo : List D → Bool
  | [] => true
  | .unset :: xs => D.pureo xs
  | x :: xs => D.pure x && D.pureo xs
end
/-- what a value is when its cells are frozen -/
def frzD (S : Store) : Nat → D → Option D
  | 0, _ => none
  | n + 1, d => if D.pure d = true then some d else match d with
    | .loc k => (match S[k]? with
      | some (.lst xs) => (xs.mapM (frzD S n)).map .lst
      | some (.dic ks vs) => (vs.mapM (frzD S n)).map (.dic ks)
      | some (.obj c fs) => (fs.mapM (frzD S n)).map (.obj c)
      | _ => none)
    | .tup xs => (xs.mapM (frzD S n)).map .tup
    | .lst xs => (xs.mapM (frzD S n)).map .lst
    | .scr xs => (xs.mapM (frzD S n)).map .scr
    | .dic ks vs => (vs.mapM (frzD S n)).map (.dic ks)
    | .obj c fs => (fs.mapM (frzD S n)).map (.obj c)
    | d => some d
def fzs (S : Store) : List D → Option (List D)
  | [] => some []
  | d :: ds => (frzD S 30 d).bind fun x => (fzs S ds).map fun xs => x :: xs
mutual
/-- nothing within that has a life of its own -/
def D.flat : D → Bool
  | .non => true
  | .bl _ => true
  | .int _ => true
  | .str _ => true
  | .tup xs => D.flats xs
  | _ => false
def D.flats : List D → Bool
  | [] => true
  | x :: xs => D.flat x && D.flats xs
end
def flatC : D → Bool
  | .lst xs => D.flats xs
  | _ => false
/-- a call in a store of its own: with data alone, or with one cell ahead -/
def callI (bx : Bool) (F : Fn) (S : Store) (ds : List D) : Option (D × Store) := match bx, ds with
  | false, ds => (fzs S ds).bind fun ds' => (F ds' []).bind fun x => if D.pures ds = true then (frzD x.2 30 x.1).map fun r => (r, S) else if D.flat x.1 = true then some (x.1, S) else none
  | true, .loc n :: ds => (S[n]?).bind fun c => if flatC c = true then (fzs (S.set n .unset) ds).bind fun ds' => (F (.loc 0 :: ds') [c]).bind fun x => (x.2[0]?).bind fun c' =>
      if flatC c' = true then (if D.pures ds = true then (frzD (x.2.set 0 .unset) 30 x.1).map fun r => (r, S.set n c') else if D.flat x.1 = true then some (x.1, S.set n c') else none) else none
    else none
  | true, _ => none
def mCallR (bx : Bool) (F : Fn) (ar : Nat) (as : MA) : M := fun e S => (as e S).bind fun x => if x.1.length = ar then callI bx F x.2 x.1 else none
section
variable {K : PySem.W.Frag} {mg : Str → Option Value}
mutual
theorem Rep.to {H : Hp} {W W2 : Wd} (l : ∀ a, Fz W a → Fz W2 a) : ∀ {v : V} {d : D}, Rep K mg H W v d → D.pure d = true → Rep K mg H W2 v d
  | _, _, .non, _ => .non
  | _, _, .unset, _ => .unset
  | _, _, .bl b, _ => .bl b
  | _, _, .int i, _ => .int i
  | _, _, .str x, _ => .str x
  | _, _, .tup h r, p => .tup h (Reps.to l r (by simpa [D.pure] using p))
  | _, _, .lst f h r, p => .lst (l _ f) h (Reps.to l r (by simpa [D.pure] using p))
  | _, _, .scr h r, p => .scr h (Reps.to l r (by simpa [D.pure] using p))
  | _, _, .dicK f h e r, p => .dicK (l _ f) h e (Reps.to l r (by have := p; simp [D.pure] at this; exact this.2))
  | _, _, .dicT f h e r, p => .dicT (l _ f) h e (Reps.to l r (by have := p; simp [D.pure] at this; exact this.2))
  | _, _, .obj f f2 hc h h2 r, p => .obj (l _ f) (l _ f2) hc h h2 (Reps.toO l r (by simpa [D.pure] using p))
  | _, _, .obj0 f hc h, p => .obj0 (l _ f) hc h
theorem Reps.to {H : Hp} {W W2 : Wd} (l : ∀ a, Fz W a → Fz W2 a) : ∀ {vs : List V} {ds : List D}, Reps K mg H W vs ds → D.pures ds = true → Reps K mg H W2 vs ds
  | _, _, .nil, _ => .nil
  | _, _, .cons h t, p => by
    simp [D.pures] at p
    exact .cons (Rep.to l h p.1) (Reps.to l t p.2)
theorem Reps.toO {H : Hp} {W W2 : Wd} (l : ∀ a, Fz W a → Fz W2 a) : ∀ {vs : List V} {ds : List D}, Reps K mg H W vs ds → D.pureo ds = true → Reps K mg H W2 vs ds
  | _, _, .nil, _ => .nil
  | _, _, .cons .unset t, p => .cons .unset (Reps.toO l t (by simpa [D.pureo] using p))
  | _, _, .cons (d := d) h t, p => by
    cases d <;> first
      | (simp [D.pureo] at p; exact .cons (Rep.to l h p.1) (Reps.toO l t p.2))
      | (cases h; exact .cons .unset (Reps.toO l t (by simpa [D.pureo] using p)))
end
mutual
theorem Rep.any {H : Hp} {W W2 : Wd} : ∀ {v : V} {d : D}, Rep K mg H W v d → D.flat d = true → Rep K mg H W2 v d
  | _, _, .non, _ => .non
  | _, _, .bl b, _ => .bl b
  | _, _, .int i, _ => .int i
  | _, _, .str x, _ => .str x
  | _, _, .tup h r, p => .tup h (Reps.any r (by simpa [D.flat] using p))
  | _, _, .unset, p => by simp [D.flat] at p
  | _, _, .lst _ _ _, p => by simp [D.flat] at p
  | _, _, .scr _ _, p => by simp [D.flat] at p
  | _, _, .dicK _ _ _ _, p => by simp [D.flat] at p
  | _, _, .dicT _ _ _ _, p => by simp [D.flat] at p
  | _, _, .obj _ _ _ _ _ _, p => by simp [D.flat] at p
  | _, _, .obj0 _ _ _, p => by simp [D.flat] at p
  | _, _, .loc _, p => by simp [D.flat] at p
theorem Reps.any {H : Hp} {W W2 : Wd} : ∀ {vs : List V} {ds : List D}, Reps K mg H W vs ds → D.flats ds = true → Reps K mg H W2 vs ds
  | _, _, .nil, _ => .nil
  | _, _, .cons h t, p => by
    simp [D.flats] at p
    exact .cons (Rep.any h p.1) (Reps.any t p.2)
end
theorem frz_gen {H : Hp} {W W2 : Wd} {S : Store} (fz : ∀ a, Fz W a → Fz W2 a) (hc : ∀ (n : Nat) a d, W.r[n]? = some a → S[n]? = some d → d ≠ .unset → Holds K mg H W a d ∧ Fz W2 a) :
    ∀ (n : Nat) (v : V) (d d' : D), Rep K mg H W v d → frzD S n d = some d' → Rep K mg H W2 v d' := by
  intro n
  induction n with
  | zero => intro v d d' _ h; cases h
  | succ n ih =>
    have all : ∀ (ds : List D) (vs : List V) (ds' : List D), Reps K mg H W vs ds → ds.mapM (frzD S n) = some ds' → Reps K mg H W2 vs ds' := by
      intro ds
      induction ds with
      | nil => intro vs ds' h e; cases h; simp at e; subst e; exact .nil
      | cons d ds ih2 =>
        intro vs ds' h e
        cases h with
        | cons h1 t1 =>
          rw [List.mapM_cons] at e
          obtain ⟨p1, e1, e⟩ := Option.bind_eq_some_iff.mp e
          obtain ⟨p2, e2, e⟩ := Option.bind_eq_some_iff.mp e
          cases e
          exact .cons (ih _ _ _ h1 e1) (ih2 _ _ t1 e2)
    intro v d d' h e
    unfold frzD at e
    split at e
    · rename_i hp
      cases e
      exact h.to fz hp
    · cases h with
      | non => cases e; exact .non
      | unset => cases e; exact .unset
      | bl b => cases e; exact .bl b
      | int i => cases e; exact .int i
      | str x => cases e; exact .str x
      | tup h1 r1 =>
        obtain ⟨ps, e9, h9⟩ := Option.map_eq_some_iff.mp (show (List.mapM (frzD S n) _).map D.tup = some d' from e)
        subst h9
        exact .tup h1 (all _ _ _ r1 e9)
      | lst f h1 r1 =>
        obtain ⟨ps, e9, h9⟩ := Option.map_eq_some_iff.mp (show (List.mapM (frzD S n) _).map D.lst = some d' from e)
        subst h9
        exact .lst (fz _ f) h1 (all _ _ _ r1 e9)
      | scr h1 r1 =>
        obtain ⟨ps, e9, h9⟩ := Option.map_eq_some_iff.mp (show (List.mapM (frzD S n) _).map D.scr = some d' from e)
        subst h9
        exact .scr h1 (all _ _ _ r1 e9)
      | dicK f h1 e1 r1 =>
        obtain ⟨ps, e9, h9⟩ := Option.map_eq_some_iff.mp (show (List.mapM (frzD S n) _).map (D.dic _) = some d' from e)
        subst h9
        exact .dicK (fz _ f) h1 e1 (all _ _ _ r1 e9)
      | dicT f h1 e1 r1 =>
        obtain ⟨ps, e9, h9⟩ := Option.map_eq_some_iff.mp (show (List.mapM (frzD S n) _).map (D.dic _) = some d' from e)
        subst h9
        exact .dicT (fz _ f) h1 e1 (all _ _ _ r1 e9)
      | obj f f2 hc2 h1 h2 r1 =>
        obtain ⟨ps, e9, h9⟩ := Option.map_eq_some_iff.mp (show (List.mapM (frzD S n) _).map (D.obj _) = some d' from e)
        subst h9
        exact .obj (fz _ f) (fz _ f2) hc2 h1 h2 (all _ _ _ r1 e9)
      | obj0 f hc2 h1 =>
        obtain ⟨ps, e9, h9⟩ := Option.map_eq_some_iff.mp (show (List.mapM (frzD S n) []).map (D.obj _) = some d' from e)
        simp at e9
        subst e9
        subst h9
        exact .obj0 (fz _ f) hc2 h1
      | @loc k a h1 =>
        have e : (match S[k]? with | some (D.lst xs) => (xs.mapM (frzD S n)).map D.lst | some (D.dic ks vs) => (vs.mapM (frzD S n)).map (D.dic ks) | some (D.obj c fs) => (fs.mapM (frzD S n)).map (D.obj c) | _ => none) = some d' := e
        split at e
        · rename_i xs hx
          obtain ⟨ps, e9, h9⟩ := Option.map_eq_some_iff.mp e
          subst h9
          obtain ⟨hh, ha⟩ := hc _ _ _ h1 hx (by simp)
          cases hh with
          | lst h2 r2 => exact .lst ha h2 (all _ _ _ r2 e9)
        · rename_i ks vs hx
          obtain ⟨ps, e9, h9⟩ := Option.map_eq_some_iff.mp e
          subst h9
          obtain ⟨hh, ha⟩ := hc _ _ _ h1 hx (by simp)
          cases hh with
          | dicK h2 e2 r2 => exact .dicK ha h2 e2 (all _ _ _ r2 e9)
          | dicT h2 e2 r2 => exact .dicT ha h2 e2 (all _ _ _ r2 e9)
        · rename_i c fs hx
          obtain ⟨ps, e9, h9⟩ := Option.map_eq_some_iff.mp e
          subst h9
          obtain ⟨hh, ha⟩ := hc _ _ _ h1 hx (by simp)
          cases hh with
          | obj f2 hc2 n h2 h3 r2 => exact .obj ha (fz _ f2) hc2 h2 h3 (all _ _ _ r2 e9)
          | obj0 hc2 n hw h2 h3 =>
            simp at e9
            subst e9
            exact .obj0 ha hc2 h2
        · cases e
theorem fzs_gen {H : Hp} {W W2 : Wd} {S : Store} (fz : ∀ a, Fz W a → Fz W2 a) (hc : ∀ (n : Nat) a d, W.r[n]? = some a → S[n]? = some d → d ≠ .unset → Holds K mg H W a d ∧ Fz W2 a) :
    ∀ (vs : List V) (ds ds' : List D), Reps K mg H W vs ds → fzs S ds = some ds' → Reps K mg H W2 vs ds'
  | _, _, ds', .nil, e => by cases e; exact .nil
  | _, _, ds', .cons h t, e => by
    unfold fzs at e
    obtain ⟨p1, e1, e⟩ := Option.bind_eq_some_iff.mp e
    obtain ⟨p2, e2, e⟩ := Option.map_eq_some_iff.mp e
    subst e
    exact .cons (frz_gen fz hc _ _ _ _ h e1) (fzs_gen fz hc _ _ _ t e2)
theorem frz_pure {S : Store} {n : Nat} {d : D} (h : D.pure d = true) : frzD S (n + 1) d = some d := by
  unfold frzD
  rw [if_pos h]
theorem fzs_pure {S : Store} : ∀ {ds : List D}, D.pures ds = true → fzs S ds = some ds
  | [], _ => rfl
  | d :: ds, h => by
    simp [D.pures] at h
    unfold fzs
    rw [frz_pure h.1, fzs_pure h.2]
    rfl
theorem Reps.cons_eq {H : Hp} {W : Wd} {vs : List V} {d : D} {ds : List D} (r : Reps K mg H W vs (d :: ds)) : ∃ v us, vs = v :: us ∧ Rep K mg H W v d ∧ Reps K mg H W us ds := by
  cases r with
  | cons h t => exact ⟨_, _, rfl, h, t⟩
/-- a callee that saw no cell but some leaves the others as they were -/
theorem region_gen {H H' : Hp} {W W0 W1 : Wd} {S S2 : Store} (s : StoreOk K mg H W S) (sub : ∀ a ∈ W1.r, a ∈ W.r) (st : Step W1 H W0 H') (hl : S2.length = S.length)
    (hk : ∀ (n : Nat) a d, W.r[n]? = some a → S2[n]? = some d → (a ∈ W1.r ∧ Holds K mg H' W a d) ∨ (a ∉ W1.r ∧ S[n]? = some d)) (hx : ∀ dx a, a ∈ W.r → H dx = some (.own a) → a ∉ W1.r → dx ∉ W1.r) (htb : TbOk H') : Step W H W H' ∧ StoreOk K mg H' W S2 := by
  have st2 : Step W H W H' := ⟨rfl, ⟨[], by simp, by simp⟩, st.th, fun b o h nb nt no => st.fr b o h (fun z => nb (sub _ z)) nt fun y e => ⟨fun z => (no y e).1 (sub _ z), (no y e).2⟩, st.tups, st.frzs⟩
  refine ⟨st2, by rw [hl]; exact s.len, s.nd, s.ap, fun a ha => st.th a _ (s.xt a ha).choose_spec, fun n a d h1 h2 => ?_, htb⟩
  rcases hk n a d h1 h2 with ⟨_, z⟩ | ⟨na, z⟩
  · exact z
  have hd := s.at_ n a d h1 z
  have ha : a ∈ W.r := List.mem_of_getElem? h1
  obtain ⟨o0, ho0⟩ := hd.tr
  refine hd.keep st2 (fun o e => st.fr a o e na (fun ps e2 => ?_) fun y e2 => ?_) fun dx e => st.fr dx _ e (hx dx a ha e na) (fun _ => by simp) fun y e2 => ?_
  · subst e2
    cases hd with
    | lst h r => rw [h] at e; cases e
    | dicK h e2 r => rw [h] at e; cases e
    | dicT h e2 r => rw [h] at e; cases e
    | obj f2 hc n h h3 r => rw [h] at e; exact absurd (Option.some.inj e) slO_tbl
    | obj0 hc n hw h h2 => rw [h] at e; cases e
  · subst e2
    cases hd with
    | lst h r => rw [h] at e; cases e
    | dicK h e2 r => rw [h] at e; cases e
    | dicT h e2 r => rw [h] at e; cases e
    | obj f2 hc n h h3 r => rw [h] at e; exact absurd (Option.some.inj e) slO_own
    | obj0 hc n hw h h2 => rw [h] at e; cases e
  · cases e2
    exact ⟨na, _, ho0⟩
def Hn (W : Wd) (S : Store) (n : Nat) (a : Addr) : Prop := ∀ (k : Nat) b d, W.r[k]? = some b → (S.set n .unset)[k]? = some d → d ≠ .unset → S[k]? = some d ∧ k ≠ n
theorem hn (W : Wd) (S : Store) (n : Nat) (a : Addr) : Hn W S n a := fun k b d _ h2 h3 => by
  rw [List.getElem?_set] at h2
  split at h2
  · split at h2
    · cases h2; exact absurd rfl h3
    · cases h2
  · rename_i h
    exact ⟨h2, fun z => h z.symm⟩
theorem nd_ix {l : List Addr} (nd : l.Nodup) {i j : Nat} {a : Addr} (h1 : l[i]? = some a) (h2 : l[j]? = some a) : i = j := by
  obtain ⟨hi, e1⟩ := List.getElem?_eq_some_iff.mp h1
  obtain ⟨hj, e2⟩ := List.getElem?_eq_some_iff.mp h2
  exact (List.getElem_inj nd).mp (e1.trans e2.symm)
/-- the callee's world, and the way back -/
theorem callI_ok {bx : Bool} {F : Fn} {H : Hp} {W : Wd} {S S' : Store} {vs : List V} {ds : List D} {d : D} (s : StoreOk K mg H W S) (r : Reps K mg H W vs ds) (h : callI bx F S ds = some (d, S')) :
    ∃ W1 S1 ds1 d1 S1', ds1.length = ds.length ∧ Reps K mg H W1 vs ds1 ∧ StoreOk K mg H W1 S1 ∧ F ds1 S1 = some (d1, S1') ∧
      ∀ v W1' H', Step W1 H W1' H' → Rep K mg H' W1' v d1 → StoreOk K mg H' W1' S1' → Step W H W H' ∧ Rep K mg H' W v d ∧ StoreOk K mg H' W S' := by
  unfold callI at h
  split at h
  · -- data alone
    obtain ⟨ds1, h1, h⟩ := Option.bind_eq_some_iff.mp h
    obtain ⟨⟨d1, S1'⟩, h2, h⟩ := Option.bind_eq_some_iff.mp h
    dsimp only at h
    split at h
    · rename_i hp
      obtain ⟨d2, h3, h⟩ := Option.map_eq_some_iff.mp h
      cases h
      rw [fzs_pure hp] at h1
      cases h1
      refine ⟨⟨[], W.r ++ W.x⟩, [], _, d1, S1', rfl, r.to (fun a f => ⟨by simp, fun z => (List.mem_append.mp z).elim f.1 f.2⟩) hp, ⟨rfl, .nil, (fun a ha => nomatch ha), fun a ha => (List.mem_append.mp ha).elim s.tr (s.xt a), fun n a d h1 h2 => (by simp at h1), s.tb⟩, h2, fun v W1' H' st rv sv => ?_⟩
      obtain ⟨st2, s2⟩ := region_gen (S2 := S) s (by simp) st rfl (fun n a d _ z => .inr ⟨by simp, z⟩) (by simp) sv.tb
      have ex : W1'.x = W.r ++ W.x := st.x
      exact ⟨st2, frz_gen (fun a f => by rw [Fz, ex] at f; exact ⟨fun z => f.2 (List.mem_append_left _ z), fun z => f.2 (List.mem_append_right _ z)⟩) (fun n a e q1 q2 _ => ⟨sv.at_ n a e q1 q2, by
        have := sv.ap a (List.mem_of_getElem? q1)
        rw [ex] at this
        exact ⟨fun z => this (List.mem_append_left _ z), fun z => this (List.mem_append_right _ z)⟩⟩) 30 v d1 d rv h3, s2⟩
    · split at h
      · rename_i hf
        cases h
        refine ⟨⟨[], []⟩, [], ds1, d, S1', ?_, ?_, ⟨rfl, .nil, (fun a ha => nomatch ha), (fun a ha => nomatch ha), fun n a d h1 h2 => (by simp at h1), s.tb⟩, h2, fun v W1' H' st rv sv => ?_⟩
        · exact ((fzs_gen (W2 := ⟨[], []⟩) (fun a f => ⟨by simp, by simp⟩) (fun n a e q1 q2 _ => ⟨s.at_ n a e q1 q2, by simp, by simp⟩) vs _ ds1 r h1).length).symm.trans r.length
        · exact fzs_gen (fun a f => ⟨by simp, by simp⟩) (fun n a e q1 q2 _ => ⟨s.at_ n a e q1 q2, by simp, by simp⟩) vs _ ds1 r h1
        obtain ⟨st2, s2⟩ := region_gen (S2 := S) s (by simp) st rfl (fun n a d _ z => .inr ⟨by simp, z⟩) (by simp) sv.tb
        exact ⟨st2, rv.any hf, s2⟩
      · cases h
  · -- a cell ahead
    rename_i n ds
    obtain ⟨c, hcn, h⟩ := Option.bind_eq_some_iff.mp h
    obtain ⟨v0, us, ev, r0, r9⟩ := r.cons_eq
    subst ev
    split at h
    rotate_left
    · cases h
    rename_i fc
    obtain ⟨ds1, h1, h⟩ := Option.bind_eq_some_iff.mp h
    obtain ⟨⟨d1, S1'⟩, h2, h⟩ := Option.bind_eq_some_iff.mp h
    obtain ⟨c', hc', h⟩ := Option.bind_eq_some_iff.mp h
    dsimp only at h hc'
    split at h
    rotate_left
    · cases h
    rename_i fc'
    obtain ⟨a, ha, hh⟩ := s.cell hcn
    have har : a ∈ W.r := List.mem_of_getElem? ha
    have rv0 : v0 = .ref a := by
      cases r0 with
      | loc h => rw [ha] at h; cases h; rfl
    subst rv0
    have hc0 : ∀ W2, Holds K mg H W2 a c := fun W2 => by
      cases hh with
      | lst y1 y2 => exact .lst y1 (y2.any fc)
      | dicK h e r => cases fc
      | dicT h e r => cases fc
      | obj f2 hc ne h h2 r => cases fc
      | obj0 hc ne hw h h2 => cases fc
    have st1 : ∀ x, (∀ b ∈ x, ∃ o, H b = some o) → a ∉ x → StoreOk K mg H ⟨[a], x⟩ [c] := fun x hx na => ⟨rfl, by simp, fun b hb => by simp at hb; subst hb; exact na, hx, (fun k b e q1 q2 => by
      cases k with
      | zero => simp at q1 q2; subst q1 q2; exact hc0 _
      | succ k => simp at q1), s.tb⟩
    have own1 : ∀ dx b, b ∈ W.r → H dx = some (.own b) → b ∉ [a] → dx ∉ [a] := fun dx b _ e _ z => by
      simp at z; subst z
      cases hh with
      | lst y1 y2 => rw [y1] at e; cases e
      | dicK h e2 r => cases fc
      | dicT h e2 r => cases fc
      | obj f2 hc ne h h2 r => cases fc
      | obj0 hc ne hw h h2 => cases fc
    have back : ∀ (x : List Addr) (W1' : Wd) (H' : Hp), Step ⟨[a], x⟩ H W1' H' → StoreOk K mg H' W1' S1' → Step W H W H' ∧ StoreOk K mg H' W (S.set n c') := fun x W1' H' st sv => by
      refine region_gen s (by simpa using har) st (by simp) (fun k b e q1 q2 => ?_) own1 sv.tb
      rw [List.getElem?_set] at q2
      split at q2
      · rename_i ek
        subst ek
        split at q2
        · cases q2
          rw [ha] at q1
          cases q1
          refine .inl ⟨by simp, ?_⟩
          cases sv.at_ 0 a c' (st.get (W := ⟨[a], x⟩) rfl) hc' with
          | lst y1 y2 => exact .lst y1 (y2.any fc')
          | dicK h e r => cases fc'
          | dicT h e r => cases fc'
          | obj f2 hc ne h h2 r => cases fc'
          | obj0 hc ne hw h h2 => cases fc'
        · cases q2
      · rename_i nk
        exact .inr ⟨by simp; exact fun z => nk (nd_ix s.nd ha (z ▸ q1)), q2⟩
    have nda : ∀ (k : Nat) b, k ≠ n → W.r[k]? = some b → b ≠ a := fun k b hk q z => hk (nd_ix s.nd q (z ▸ ha))
    split at h
    · rename_i hp
      obtain ⟨d2, h3, h⟩ := Option.map_eq_some_iff.mp h
      cases h
      rw [fzs_pure hp] at h1
      cases h1
      have hsub : ∀ b, b ∈ W.r.erase a ++ W.x → ∃ o, H b = some o := fun b hb => (List.mem_append.mp hb).elim (fun z => s.tr (List.mem_of_mem_erase z)) (s.xt b)
      have na : a ∉ W.r.erase a ++ W.x := fun z => (List.mem_append.mp z).elim (fun z => (s.nd.mem_erase_iff.mp z).1 rfl) (s.ap a har)
      have inx : ∀ b, b ∉ W.r.erase a ++ W.x → b ≠ a → Fz W b := fun b h ne => ⟨fun z => h (List.mem_append_left _ ((List.mem_erase_of_ne ne).mpr z)), fun z => h (List.mem_append_right _ z)⟩
      refine ⟨⟨[a], W.r.erase a ++ W.x⟩, [c], .loc 0 :: ds, d1, S1', rfl, .cons (.loc rfl) (r9.to (fun b f => ⟨fun z => by simp at z; subst z; exact f.1 har, fun z => (List.mem_append.mp z).elim (fun z => f.1 (List.mem_of_mem_erase z)) f.2⟩) hp), st1 _ hsub na, h2, fun v W1' H' st rv sv => ?_⟩
      obtain ⟨st2, s2⟩ := back _ W1' H' st sv
      have ex : W1'.x = W.r.erase a ++ W.x := st.x
      have am : W1'.r[0]? = some a := st.get (W := ⟨[a], W.r.erase a ++ W.x⟩) rfl
      refine ⟨st2, frz_gen (fun b f => inx b (by rw [← ex]; exact f.2) fun z => f.1 (z ▸ List.mem_of_getElem? am)) (fun k b e q1 q2 q3 => ?_) 30 v d1 d rv h3, s2⟩
      obtain ⟨q4, q5⟩ := hn W1' S1' 0 a k b e q1 q2 q3
      exact ⟨sv.at_ k b e q1 q4, inx b (by rw [← ex]; exact sv.ap b (List.mem_of_getElem? q1)) fun z => q5 (nd_ix sv.nd q1 (z ▸ am))⟩
    · split at h
      · rename_i hf
        cases h
        have rr : Reps K mg H ⟨[a], []⟩ us ds1 := fzs_gen (S := S.set n .unset) (fun b f => ⟨by simp; exact fun z => f.1 (z ▸ har), by simp⟩) (fun k b e q1 q2 q3 => by
          obtain ⟨q4, q5⟩ := hn W S n a k b e q1 q2 q3
          exact ⟨s.at_ k b e q1 q4, by simp; exact nda k b q5 q1, by simp⟩) us ds ds1 r9 h1
        refine ⟨⟨[a], []⟩, [c], .loc 0 :: ds1, d, S1', by simp [← rr.length, ← r9.length], .cons (.loc rfl) rr, st1 [] (by simp) (by simp), h2, fun v W1' H' st rv sv => ?_⟩
        obtain ⟨st2, s2⟩ := back _ W1' H' st sv
        exact ⟨st2, rv.any hf, s2⟩
      · cases h
  · cases h
end
section
variable {X : Cx} {k ar : Nat} {f : Addr} {fd : FuncData} {ps : List Str} {F : Fn} {x : Str} {e : Expr} {es : List Expr} {p pos : Pos} {as : MA} {bx : Bool}
theorem call_ok {K : PySem.W.Frag} {mg : Str → Option Value} {σ : L2.St} {H : Hp} {Q : VK} (h : tE K mg (mCall F ar as) σ H Q) : tCall (spOf K mg F ar) [] E0 (tAs K mg as) σ H Q := by
  obtain ⟨W, en, S, d, S', hE, hS, hm, q⟩ := h
  unfold mCall at hm
  obtain ⟨⟨d1, S1⟩, h1, hm⟩ := Option.bind_eq_some_iff.mp hm
  dsimp only at hm
  split at hm
  · rename_i hl
    exact ⟨W, en, S, d1, S1, hE, hS, h1, fun vs W1 H1 st1 r1 s1 => by show spOf K mg F ar (vs ++ []) H1 Q E0; rw [List.append_nil]; exact ⟨by rw [r1.length]; exact hl, W1, S1, d1, d, S', r1, s1, hm, fun v W' H' st r s => q v W' H' (st1.trans st) r s⟩⟩
  · cases hm
theorem callR_ok {K : PySem.W.Frag} {mg : Str → Option Value} {σ : L2.St} {H : Hp} {Q : VK} {bx : Bool} (h : tE K mg (mCallR bx F ar as) σ H Q) : tCall (spOf K mg F ar) [] E0 (tAs K mg as) σ H Q := by
  obtain ⟨W, en, S, d, S', hE, hS, hm, q⟩ := h
  unfold mCallR at hm
  obtain ⟨⟨d1, S1⟩, h1, hm⟩ := Option.bind_eq_some_iff.mp hm
  dsimp only at hm
  split at hm
  · rename_i hl
    refine ⟨W, en, S, d1, S1, hE, hS, h1, fun vs W1 H1 st1 r1 s1 => ?_⟩
    show spOf K mg F ar (vs ++ []) H1 Q E0
    rw [List.append_nil]
    obtain ⟨W2, S2, ds2, d2, S2', z1, z2, z3, z4, z5⟩ := callI_ok s1 r1 hm
    refine ⟨by rw [r1.length]; exact hl, W2, S2, ds2, d2, S2', z2, z3, z4, fun v W' H' st r s => ?_⟩
    obtain ⟨y1, y2, y3⟩ := z5 v W' H' st r s
    exact q v W1 H' (st1.trans y1) y2 y3
  · cases hm
theorem se_call (G : FnOk X.prog X.w X.K X.mg X.base (L2.CX X.prog X.w) k f fd ps (spOf X.K X.mg F ar)) (hr : Room k X.A) (hg : Gl X x) (hm : X.mg x = some (.ref f)) (hk : PySem.W.keepIn X.K (.ref f) = true) (hb : Binds X.K fd ps []) (ha : SA X (e :: es) as)
    (hdb : (x == ("__debug__" : Str)) = false := by decide) (he : starEach (e :: es) X.env = (false, eval e X.env) :: starEach es X.env := by rfl) (hpl : (backTo pos (starEach es X.env)).any (·.1) = false := by rfl) : SE X (.Call (.Name x p) (e :: es) [] pos) (mCall F ar as) :=
  pe_imp (pe_call G hr hg hm hk hb .nil passL ha hdb he hpl) fun _ _ _ => call_ok
theorem se_callR (G : FnOk X.prog X.w X.K X.mg X.base (L2.CX X.prog X.w) k f fd ps (spOf X.K X.mg F ar)) (hr : Room k X.A) (hg : Gl X x) (hm : X.mg x = some (.ref f)) (hk : PySem.W.keepIn X.K (.ref f) = true) (hb : Binds X.K fd ps []) (ha : SA X (e :: es) as)
    (hdb : (x == ("__debug__" : Str)) = false := by decide) (he : starEach (e :: es) X.env = (false, eval e X.env) :: starEach es X.env := by rfl) (hpl : (backTo pos (starEach es X.env)).any (·.1) = false := by rfl) : SE X (.Call (.Name x p) (e :: es) [] pos) (mCallR bx F ar as) :=
  pe_imp (pe_call G hr hg hm hk hb .nil passL ha hdb he hpl) fun _ _ _ => callR_ok
theorem tAs_nil {K : PySem.W.Frag} {mg : Str → Option Value} {σ : L2.St} {H : Hp} {Q : List V → Hp → Prop} (h : tAs K mg aNil σ H Q) : tNil σ H Q := by
  obtain ⟨W, en, S, d, S', hE, hS, hm, q⟩ := h
  cases hm
  exact q [] W H .refl .nil hS
theorem se_call0 (G : FnOk X.prog X.w X.K X.mg X.base (L2.CX X.prog X.w) k f fd ps (spOf X.K X.mg F ar)) (hr : Room k X.A) (hg : Gl X x) (hm : X.mg x = some (.ref f)) (hk : PySem.W.keepIn X.K (.ref f) = true) (hb : Binds X.K fd ps [])
    (hdb : (x == ("__debug__" : Str)) = false := by decide) : SE X (.Call (.Name x p) [] [] pos) (mCall F ar aNil) :=
  pe_imp (pe_call0 G hr hg hm hk hb .nil passL hdb) fun _ _ _ h => tAs_nil (call_ok h)
theorem se_callR0 (G : FnOk X.prog X.w X.K X.mg X.base (L2.CX X.prog X.w) k f fd ps (spOf X.K X.mg F ar)) (hr : Room k X.A) (hg : Gl X x) (hm : X.mg x = some (.ref f)) (hk : PySem.W.keepIn X.K (.ref f) = true) (hb : Binds X.K fd ps [])
    (hdb : (x == ("__debug__" : Str)) = false := by decide) : SE X (.Call (.Name x p) [] [] pos) (mCallR bx F ar aNil) :=
  pe_imp (pe_call0 G hr hg hm hk hb .nil passL hdb) fun _ _ _ h => tAs_nil (callR_ok h)
end
end MM
set_option maxRecDepth 100000
set_option maxHeartbeats 2000000
namespace MM
open PySem PySem.Spec PyProof.Rows L2
variable [TB : Tabl]
/-! ### calls by names -/
def pick {A : Type} (ix : List Nat) (l : List A) : List A := ix.filterMap fun i => l[i]?
structure KB (fd : FuncData) (ps ks : List Str) (n : Nat) (ix : List Nat) : Prop where
  to : ∀ (s : Shared) (us ws : List Value), us.length = n → ws.length = ks.length → BindsTo s fd ⟨us, ks.zip ws⟩ (ps.zip (pick ix (us ++ ws)))
theorem pick_vals {vs : List V} {us : List Value} (r : Vals vs us) : ∀ ix : List Nat, Vals (pick ix vs) (pick ix us)
  | [] => .nil
  | i :: ix => by
    unfold pick
    rw [List.filterMap_cons, List.filterMap_cons]
    cases e : vs[i]? with
    | none => rw [r.none_of e]; exact pick_vals r ix
    | some v =>
      obtain ⟨u, e2, r2⟩ := r.get e
      rw [e2]; exact .cons r2 (pick_vals r ix)
theorem pick_reps {K : PySem.W.Frag} {mg : Str → Option Value} {H : Hp} {W : Wd} {vs : List V} {us : List D} (r : Reps K mg H W vs us) : ∀ ix : List Nat, Reps K mg H W (pick ix vs) (pick ix us)
  | [] => .nil
  | i :: ix => by
    unfold pick
    rw [List.filterMap_cons, List.filterMap_cons]
    cases e : vs[i]? with
    | none =>
      have : us[i]? = none := by
        rw [List.getElem?_eq_none_iff] at e ⊢
        rw [← r.length]; exact e
      rw [this]; exact pick_reps r ix
    | some v =>
      obtain ⟨u, e2, r2⟩ := r.getV e
      rw [e2]; exact .cons r2 (pick_reps r ix)
def tCK (n m : Nat) (ix : List Nat) (sp : Sp) (t tk : TA) : TE := fun σ H Q => t σ H fun vs H1 => tk σ H1 fun zs H2 => vs.length = n ∧ zs.length = m ∧ sp (pick ix (vs ++ zs)) H2 Q E0
section
variable {X : Cx} {CX : CXT} {k n : Nat} {f : Addr} {fd : FuncData} {ps ks : List Str} {ix : List Nat} {sp : Sp} {x : Str} {p pos kpos : Pos} {e : Expr} {es : List Expr} {kws : List Keyword} {t tk : TA} {nm : Option Str}
theorem run_kb {pins : List (Addr × Obj)} {σ : L2.St} {H : Hp} {s : Shared} {Q : VK} {us ws : List Value} {vs zs : List V} (F : FnOk X.prog X.w X.K X.mg X.base CX k f fd ps sp) (hr : Room k X.A) (hb : KB fd ps ks n ix) (hx : Passes CX X E0)
    (I : Inv X pins σ H s) (r : Vals vs us) (rz : Vals zs ws) (h1 : vs.length = n) (h2 : zs.length = ks.length) (h : sp (pick ix (vs ++ zs)) H Q E0) : wpAny (model X.prog X.w) X.A (call (.ref f) us (ks.zip ws)) (EP X pins σ Q) X.xe s := by
  refine wpAny_call (codeAny_mono (F.run X.A X.stack s H ⟨us, ks.zip ws⟩ (pick ix (us ++ ws)) (pick ix (vs ++ zs)) Q E0 hr I.env0 (hb.to s us ws (by rw [← r.length]; exact h1) (by rw [← rz.length]; exact h2)) (pick_vals (r.append rz) ix) h) fun r s' hq => ?_)
  match r, hq with
  | .error e, hq => exact hx pins σ H s e s' I hq
  | .ok (.ret u), hq => exact I.after hq
theorem pe_ck (F : FnOk X.prog X.w X.K X.mg X.base CX k f fd ps sp) (hr : Room k X.A) (hg : Gl X x) (hm : X.mg x = some (.ref f)) (hk : PySem.W.keepIn X.K (.ref f) = true) (hb : KB fd ps ks n ix) (hx : Passes CX X E0)
    (ha : PA X (e :: es) t) (hkw : PK X kws tk) (hall : (backToKw pos (keywordEach kws X.env)).all (·.1.isSome) = true := by rfl) (hks : (backToKw pos (keywordEach kws X.env)).filterMap (·.1) = ks := by rfl)
    (hdb : (x == ("__debug__" : Str)) = false := by decide) (he : starEach (e :: es) X.env = (false, eval e X.env) :: starEach es X.env := by rfl)
    (hpl : ((backTo pos (starEach (e :: es) X.env)).any (·.1) || (backToKw pos (keywordEach kws X.env)).any (·.1.isNone)) = false := by rfl) : PE X (.Call (.Name x p) (e :: es) kws pos) (tCK n ks.length ix sp t tk) := by
  refine ⟨fun pins s σ H Q I h => wpAny_Call_Name_kw (ld_glob I hg hm (PySem.W.callWith_KW (h₀ := X.base) I.ok.mod.kin hk hall (thn (ha.run pos pins s σ H _ I h) fun us s1 ⟨vs, H1, I1, r1, q1⟩ => ?_) hpl he) hdb)⟩
  refine thn (hkw.run pos pins s1 σ H1 _ I1 q1) fun ws s2 ⟨zs, H2, I2, r2, l1, l2, q2⟩ => ⟨I2.kIn, ?_⟩
  rw [hks]
  exact run_kb F hr hb hx I2 r1 r2 l1 l2 q2
theorem pe_ck0 (F : FnOk X.prog X.w X.K X.mg X.base CX k f fd ps sp) (hr : Room k X.A) (hg : Gl X x) (hm : X.mg x = some (.ref f)) (hk : PySem.W.keepIn X.K (.ref f) = true) (hb : KB fd ps ks 0 ix) (hx : Passes CX X E0)
    (hkw : PK X kws tk) (hall : (backToKw pos (keywordEach kws X.env)).all (·.1.isSome) = true := by rfl) (hks : (backToKw pos (keywordEach kws X.env)).filterMap (·.1) = ks := by rfl)
    (hdb : (x == ("__debug__" : Str)) = false := by decide)
    (hpl : ((backTo pos (starEach [] X.env)).any (·.1) || (backToKw pos (keywordEach kws X.env)).any (·.1.isNone)) = false := by rfl) : PE X (.Call (.Name x p) [] kws pos) (tCK 0 ks.length ix sp tNil tk) := by
  refine ⟨fun pins s σ H Q I h => wpAny_Call_Name_kw (ld_glob I hg hm (PySem.W.callWith_KW0 (h₀ := X.base) I.ok.mod.kin hk hall ?_ hpl) hdb)⟩
  refine thn (hkw.run pos pins s σ H _ I h) fun ws s2 ⟨zs, H2, I2, r2, l1, l2, q2⟩ => ⟨I2.kIn, ?_⟩
  rw [hks]
  exact run_kb (us := []) F hr hb hx I2 .nil r2 l1 l2 q2
abbrev SK (X : Cx) (kws : List Keyword) (m : MA) : Prop := PK X kws (tAs X.K X.mg m)
theorem pk_imp {t t' : TA} (h : PK X kws t) (i : ∀ σ H Q, t' σ H Q → t σ H Q) : PK X kws t' := ⟨fun p pins s σ H Q I q => h.run p pins s σ H Q I (i _ _ _ q)⟩
theorem sk_nil : SK X [] aNil := pk_imp pk_nil fun σ H Q h => tAs_nil h
theorem sk_cons {ma : M} {as : MA} (ha : SE X e ma) (hr : SK X kws as) : SK X (⟨nm, e, kpos⟩ :: kws) (aCons ma as) := pk_imp (pk_cons ha hr) fun σ H Q ⟨W, en, S, d, S', hE, hS, hm, q⟩ => by
  unfold aCons at hm
  obtain ⟨⟨d1, S1⟩, e1, hm⟩ := Option.bind_eq_some_iff.mp hm
  obtain ⟨⟨d2, S2⟩, e2, hm⟩ := Option.map_eq_some_iff.mp hm
  cases hm
  exact ⟨W, en, S, d1, S1, hE, hS, e1, fun v W1 H1 st1 r1 s1 => ⟨W1, en, S1, d2, _, hE.mono st1, s1, e2, fun vs W2 H2 st2 r2 s2 => q _ W2 H2 (st1.trans st2) (.cons (r1.mono st2) r2) s2⟩⟩
end
/-- the arguments in the def's order: n by place, m by name -/
def aPick (n m : Nat) (ix : List Nat) (as ks : MA) : MA := fun e S => (as e S).bind fun x => (ks e x.2).bind fun y => if x.1.length = n ∧ y.1.length = m then some (pick ix (x.1 ++ y.1), y.2) else none
section
variable {K : PySem.W.Frag} {mg : Str → Option Value} {F : Fn} {ar n m : Nat} {ix : List Nat} {as ks : MA}
theorem ck_ok {σ : L2.St} {H : Hp} {Q : VK} (h : tCall (spOf K mg F ar) [] E0 (tAs K mg (aPick n m ix as ks)) σ H Q) : tCK n m ix (spOf K mg F ar) (tAs K mg as) (tAs K mg ks) σ H Q := by
  obtain ⟨W, en, S, d, S', hE, hS, hm, q⟩ := h
  unfold aPick at hm
  obtain ⟨⟨d1, S1⟩, h1, hm⟩ := Option.bind_eq_some_iff.mp hm
  obtain ⟨⟨d2, S2⟩, h2, hm⟩ := Option.bind_eq_some_iff.mp hm
  dsimp only at hm h2
  split at hm
  · rename_i hl
    cases hm
    refine ⟨W, en, S, d1, S1, hE, hS, h1, fun vs W1 H1 st1 r1 s1 => ⟨W1, en, S1, d2, _, hE.mono st1, s1, h2, fun zs W2 H2 st2 r2 s2 => ⟨by rw [r1.length]; exact hl.1, by rw [r2.length]; exact hl.2, ?_⟩⟩⟩
    have z : spOf K mg F ar (pick ix (vs ++ zs) ++ []) H2 Q E0 := q _ W2 H2 (st1.trans st2) (pick_reps ((r1.mono st2).append r2) ix) s2
    rw [List.append_nil] at z
    exact z
  · cases hm
end
section
variable {X : Cx} {k ar n : Nat} {f : Addr} {fd : FuncData} {ps ks : List Str} {ix : List Nat} {F : Fn} {x : Str} {e : Expr} {es : List Expr} {kws : List Keyword} {p pos : Pos} {as ms : MA} {bx : Bool}
theorem se_callK (G : FnOk X.prog X.w X.K X.mg X.base (L2.CX X.prog X.w) k f fd ps (spOf X.K X.mg F ar)) (hr : Room k X.A) (hg : Gl X x) (hm : X.mg x = some (.ref f)) (hk : PySem.W.keepIn X.K (.ref f) = true) (hb : KB fd ps ks n ix) (ha : SA X (e :: es) as) (hkw : SK X kws ms)
    (hall : (backToKw pos (keywordEach kws X.env)).all (·.1.isSome) = true := by rfl) (hks : (backToKw pos (keywordEach kws X.env)).filterMap (·.1) = ks := by rfl)
    (hdb : (x == ("__debug__" : Str)) = false := by decide) (he : starEach (e :: es) X.env = (false, eval e X.env) :: starEach es X.env := by rfl)
    (hpl : ((backTo pos (starEach (e :: es) X.env)).any (·.1) || (backToKw pos (keywordEach kws X.env)).any (·.1.isNone)) = false := by rfl) :
    SE X (.Call (.Name x p) (e :: es) kws pos) (mCall F ar (aPick n ks.length ix as ms)) ∧ SE X (.Call (.Name x p) (e :: es) kws pos) (mCallR bx F ar (aPick n ks.length ix as ms)) :=
  ⟨pe_imp (pe_ck G hr hg hm hk hb passL ha hkw hall hks hdb he hpl) fun _ _ _ h => ck_ok (call_ok h), pe_imp (pe_ck G hr hg hm hk hb passL ha hkw hall hks hdb he hpl) fun _ _ _ h => ck_ok (callR_ok h)⟩
theorem se_callK0 (G : FnOk X.prog X.w X.K X.mg X.base (L2.CX X.prog X.w) k f fd ps (spOf X.K X.mg F ar)) (hr : Room k X.A) (hg : Gl X x) (hm : X.mg x = some (.ref f)) (hk : PySem.W.keepIn X.K (.ref f) = true) (hb : KB fd ps ks 0 ix) (hkw : SK X kws ms)
    (hall : (backToKw pos (keywordEach kws X.env)).all (·.1.isSome) = true := by rfl) (hks : (backToKw pos (keywordEach kws X.env)).filterMap (·.1) = ks := by rfl)
    (hdb : (x == ("__debug__" : Str)) = false := by decide)
    (hpl : ((backTo pos (starEach [] X.env)).any (·.1) || (backToKw pos (keywordEach kws X.env)).any (·.1.isNone)) = false := by rfl) :
    SE X (.Call (.Name x p) [] kws pos) (mCall F ar (aPick 0 ks.length ix aNil ms)) ∧ SE X (.Call (.Name x p) [] kws pos) (mCallR bx F ar (aPick 0 ks.length ix aNil ms)) := by
  have key : ∀ σ H Q, tCK 0 ks.length ix (spOf X.K X.mg F ar) (tAs X.K X.mg aNil) (tAs X.K X.mg ms) σ H Q → tCK 0 ks.length ix (spOf X.K X.mg F ar) tNil (tAs X.K X.mg ms) σ H Q := fun σ H Q h => tAs_nil h
  exact ⟨pe_imp (pe_ck0 G hr hg hm hk hb passL hkw hall hks hdb hpl) fun _ _ _ h => key _ _ _ (ck_ok (call_ok h)), pe_imp (pe_ck0 G hr hg hm hk hb passL hkw hall hks hdb hpl) fun _ _ _ h => key _ _ _ (ck_ok (callR_ok h))⟩
end
end MM
set_option maxRecDepth 100000
set_option maxHeartbeats 2000000
namespace MM
open PySem PySem.Spec PyProof.Rows L2
variable [TB : Tabl]
/-! ### a def of the text, with its mirror -/
structure Raw (K : PySem.W.Frag) (mg : Str → Option Value) (x : Str) (st : Stmt) : Prop where
  ex : ∃ f fd, Fun K x x st f fd ∧ mg x = some (.ref f)
structure Df (P : Program) (w : World) (K : PySem.W.Frag) (mg : Str → Option Value) (base : Heap) (x : Str) (st : Stmt) (k : Nat) (ps : List Str) (F : Fn) (ar : Nat) : Prop where
  ex : ∃ f fd, FnOk P w K mg base (L2.CX P w) k f fd ps (spOf K mg F ar) ∧ mg x = some (.ref f) ∧ Fun K x x st f fd ∧ Binds K fd ps []
section
variable {P : Program} {w : World} {K : PySem.W.Frag} {mg : Str → Option Value} {base : Heap} {x : Str} {st : Stmt} {N ps : List Str} {k ar : Nat} {ms : MS}
theorem df_of (R : Raw K mg x st) (hb : ∀ f fd, Fun K x x st f fd → Binds K fd ps []) (S : FnScope N ps (defScope st)) (har : ps.length = ar)
    (hbody : ∀ (f : Addr) (cdv : Value) (A : Around) (outer : List Env) (s : Shared) (H : Hp) (E : XK), Room k (A.deeper (envOfC x (defScope st) s.heap.objs.size f cdv)) → SS (cxOf (L2.CX P w) P w K mg base N x (defScope st) f cdv A outer s H E) (defBody st) ms) :
    Df P w K mg base x st (k + 1) ps (fnM N.length ms) ar := by
  obtain ⟨f, fd, F, hm⟩ := R.ex
  exact ⟨f, fd, fn_ok F S har (hbody f), hm, F, hb f fd F⟩
theorem df_none (R : Raw K mg x st) (hb : ∀ f fd, Fun K x x st f fd → Binds K fd ps []) (har : ps.length = ar) : Df P w K mg base x st k ps (fun _ _ => none) ar := by
  obtain ⟨f, fd, F, hm⟩ := R.ex
  exact ⟨f, fd, fn_none har, hm, F, hb f fd F⟩
theorem Df.mono {F : Fn} {j : Nat} (G : Df P w K mg base x st k ps F ar) (h : k ≤ j) : Df P w K mg base x st j ps F ar := by
  obtain ⟨f, fd, g, hm, F, hb⟩ := G.ex
  exact ⟨f, fd, g.mono h, hm, F, hb⟩
end
section
variable {X : Cx} {k ar n : Nat} {st : Stmt} {ps ks : List Str} {ix : List Nat} {F : Fn} {x : Str} {e : Expr} {es : List Expr} {kws : List Keyword} {p pos : Pos} {as ms : MA} {bx : Bool}
theorem sd_call (G : Df X.prog X.w X.K X.mg X.base x st k ps F ar) (hr : Room k X.A) (ha : SA X (e :: es) as) (hg : Gl X x := by rfl)
    (hdb : (x == ("__debug__" : Str)) = false := by decide) (he : starEach (e :: es) X.env = (false, eval e X.env) :: starEach es X.env := by rfl) (hpl : (backTo pos (starEach es X.env)).any (·.1) = false := by rfl) : SE X (.Call (.Name x p) (e :: es) [] pos) (mCall F ar as) := by
  obtain ⟨f, fd, g, hm, Fu, hb⟩ := G.ex
  exact se_call g hr hg hm Fu.kp hb ha hdb he hpl
theorem sd_callR (G : Df X.prog X.w X.K X.mg X.base x st k ps F ar) (hr : Room k X.A) (ha : SA X (e :: es) as) (hg : Gl X x := by rfl)
    (hdb : (x == ("__debug__" : Str)) = false := by decide) (he : starEach (e :: es) X.env = (false, eval e X.env) :: starEach es X.env := by rfl) (hpl : (backTo pos (starEach es X.env)).any (·.1) = false := by rfl) : SE X (.Call (.Name x p) (e :: es) [] pos) (mCallR bx F ar as) := by
  obtain ⟨f, fd, g, hm, Fu, hb⟩ := G.ex
  exact se_callR g hr hg hm Fu.kp hb ha hdb he hpl
theorem sd_call0 (G : Df X.prog X.w X.K X.mg X.base x st k ps F ar) (hr : Room k X.A) (hg : Gl X x := by rfl) (hdb : (x == ("__debug__" : Str)) = false := by decide) : SE X (.Call (.Name x p) [] [] pos) (mCall F ar aNil) := by
  obtain ⟨f, fd, g, hm, Fu, hb⟩ := G.ex
  exact se_call0 g hr hg hm Fu.kp hb hdb
theorem sd_callR0 (G : Df X.prog X.w X.K X.mg X.base x st k ps F ar) (hr : Room k X.A) (hg : Gl X x := by rfl) (hdb : (x == ("__debug__" : Str)) = false := by decide) : SE X (.Call (.Name x p) [] [] pos) (mCallR bx F ar aNil) := by
  obtain ⟨f, fd, g, hm, Fu, hb⟩ := G.ex
  exact se_callR0 g hr hg hm Fu.kp hb hdb
theorem sd_callK (G : Df X.prog X.w X.K X.mg X.base x st k ps F ar) (hr : Room k X.A) (kb : ∀ f fd, Fun X.K x x st f fd → KB fd ps ks n ix) (ha : SA X (e :: es) as) (hkw : SK X kws ms) (hg : Gl X x := by rfl)
    (hall : (backToKw pos (keywordEach kws X.env)).all (·.1.isSome) = true := by rfl) (hks : (backToKw pos (keywordEach kws X.env)).filterMap (·.1) = ks := by rfl)
    (hdb : (x == ("__debug__" : Str)) = false := by decide) (he : starEach (e :: es) X.env = (false, eval e X.env) :: starEach es X.env := by rfl)
    (hpl : ((backTo pos (starEach (e :: es) X.env)).any (·.1) || (backToKw pos (keywordEach kws X.env)).any (·.1.isNone)) = false := by rfl) :
    SE X (.Call (.Name x p) (e :: es) kws pos) (mCall F ar (aPick n ks.length ix as ms)) ∧ SE X (.Call (.Name x p) (e :: es) kws pos) (mCallR bx F ar (aPick n ks.length ix as ms)) := by
  obtain ⟨f, fd, g, hm, Fu, hb⟩ := G.ex
  exact se_callK g hr hg hm Fu.kp (kb f fd Fu) ha hkw hall hks hdb he hpl
theorem sd_callK0 (G : Df X.prog X.w X.K X.mg X.base x st k ps F ar) (hr : Room k X.A) (kb : ∀ f fd, Fun X.K x x st f fd → KB fd ps ks 0 ix) (hkw : SK X kws ms) (hg : Gl X x := by rfl)
    (hall : (backToKw pos (keywordEach kws X.env)).all (·.1.isSome) = true := by rfl) (hks : (backToKw pos (keywordEach kws X.env)).filterMap (·.1) = ks := by rfl)
    (hdb : (x == ("__debug__" : Str)) = false := by decide)
    (hpl : ((backTo pos (starEach [] X.env)).any (·.1) || (backToKw pos (keywordEach kws X.env)).any (·.1.isNone)) = false := by rfl) :
    SE X (.Call (.Name x p) [] kws pos) (mCall F ar (aPick 0 ks.length ix aNil ms)) ∧ SE X (.Call (.Name x p) [] kws pos) (mCallR bx F ar (aPick 0 ks.length ix aNil ms)) := by
  obtain ⟨f, fd, g, hm, Fu, hb⟩ := G.ex
  exact se_callK0 g hr hg hm Fu.kp (kb f fd Fu) hkw hall hks hdb hpl
end
/-! ### the law's end -/
/-- the law's def answers True of every script -/
def LawOk (F : Fn) : Prop := ∀ ns : List Int, ns.length ≤ 63 → ∃ S, F [.scr (ns.map .int)] [] = some (.bl true, S)
/-- no list, no tuple is there but frozen ones -/
def NoLst (H : Hp) : Prop := ∀ a vs, H a ≠ some (.lst vs)
theorem law_sp {K : PySem.W.Frag} {mg : Str → Option Value} {F : Fn} (h : LawOk F) {H : Hp} {a : Addr} {ns : List Int} (hl : ns.length ≤ 63) (ho : NoLst H) (htb : TbOk H) (hs : SqL K H a (ns.map V.int)) :
    spOf K mg F 1 [.ref a] H (fun v _ => v = .bl true) (fun _ _ _ => False) := by
  obtain ⟨S, hS⟩ := h ns hl
  refine ⟨rfl, ⟨[], []⟩, [], [.scr (ns.map .int)], .bl true, S, .cons (.scr ?_ (Reps.ints ns)) .nil, ⟨rfl, .nil, (fun a ha => nomatch ha), (fun a ha => nomatch ha), fun n a d h1 h2 => (by simp at h1), htb⟩, hS, fun v W' H' st r s => by cases r; rfl⟩
  rcases hs with (hs | hs) | hs
  · exact (ho _ _ hs).elim
  · exact .inl hs
  · exact .inr hs
theorem law_cx {P : Program} {w : World} : ∀ (H : Hp) (s : Shared) (e : Value) (s' : Shared), L2.CX P w [] H s (fun _ _ _ => False) e s' → False := fun H s e s' h => by
  obtain ⟨_, _, _, _, _, _, _, _, _, _, _, _, z⟩ := h
  exact z
theorem law_end {l : PySem.W.OpenLaw} {w : World} {K : PySem.W.Frag} {mg : Str → Option Value} {st : Stmt} {k : Nat} {F : Fn} {x p : Str} {fa : Addr} (hfa : mg x = some (.ref fa))
    (hb : ∀ f fd, Fun K x x st f fd → ∀ (s : Shared) (v : Value), BindsTo s fd ⟨[v], []⟩ [(p, v)]) (R : Raw K mg x st)
    (G : ∀ base : Heap, Df l.prog w K mg base x st k [p] F 1) :
    ∃ fd : FuncData, (∀ (s : Shared) (v : Value), BindsTo s fd ⟨[v], []⟩ [(p, v)]) ∧ ∀ base : Heap, K.In base → base.Ns mainGlobals mg → FnOk l.prog w K mg base (L2.CX l.prog w) k fa fd [p] (spOf K mg F 1) := by
  obtain ⟨f, fd, Fu, hm⟩ := R.ex
  rw [hfa] at hm
  cases hm
  refine ⟨fd, hb _ _ Fu, fun base _ _ => ?_⟩
  obtain ⟨f2, fd2, g, hm2, Fu2, _⟩ := (G base).ex
  rw [hfa] at hm2
  cases hm2
  obtain ⟨oc, od, kV, doc, pm, an, cdv, ct, osl, e1, lk, _⟩ := Fu.ex
  obtain ⟨oc2, od2, kV2, doc2, pm2, an2, cdv2, ct2, osl2, e2, lk2, _⟩ := Fu2.ex
  rw [lk] at lk2
  cases lk2
  exact g
end MM
set_option maxRecDepth 100000
set_option maxHeartbeats 2000000
namespace MM
open PySem PySem.Spec PyProof.Rows L2
variable [TB : Tabl]
section
variable {X : Cx} {a b c : Expr} {pos : Pos} {as : MA}
theorem se_gS {x y : Str} (hm : ∃ t, X.mg x = some (.str y t)) (hg : Gl X x := by rfl) (hd : (x == ("__debug__" : Str)) = false := by decide) : SE X (.Name x pos) (mC (.str y)) := by
  obtain ⟨t, hm⟩ := hm
  exact se_globS hg hm hd
theorem se_gI {x : Str} {y : Int} (hm : ∃ t, X.mg x = some (.int y t)) (hg : Gl X x := by rfl) (hd : (x == ("__debug__" : Str)) = false := by decide) : SE X (.Name x pos) (mC (.int y)) := by
  obtain ⟨t, hm⟩ := hm
  exact se_globI hg hm hd
theorem s1_par3 {i j l : Nat} {x y z : Str} {px py pz pt : Pos} {kt k2 pt2} (hc : X.calm = true) (hN : X.N.Nodup) (hi : X.N[i]? = some x) (hj : X.N[j]? = some y) (hl : X.N[l]? = some z) (hij : i ≠ j) (hil : i ≠ l) (hjl : j ≠ l)
    (hx : X.env.scope.names.lookup x = some .local) (hy : X.env.scope.names.lookup y = some .local) (hz : X.env.scope.names.lookup z = some .local) (ha : SA X [a, b, c] as)
    (hw : swappedStores [.Tuple [.Name x px, .Name y py, .Name z pz] kt pt] (.Tuple [a, b, c] k2 pt2) X.env = pure (some [x, y, z]) := by rfl)
    (hs : swapsWithSole [.Tuple [.Name x px, .Name y py, .Name z pz] kt pt] (.Tuple [a, b, c] k2 pt2) pos.line X.env = pure false := by rfl) :
    S1 X (.Assign [.Tuple [.Name x px, .Name y py, .Name z pz] kt pt] (.Tuple [a, b, c] k2 pt2) pos) (sPar as (pCons (pN i) (pCons (pN j) (pCons (pN l) pNil)))) := ps_imp (ps_par3 hc hN hi hj hl hij hil hjl hx hy hz ha hw hs) fun D σ H ⟨W, en, S, f, e', S', hE, hS, hm, q⟩ => by
  unfold sPar at hm
  obtain ⟨⟨d1, S1⟩, e1, hm⟩ := Option.bind_eq_some_iff.mp hm
  obtain ⟨e2, e3, hm⟩ := Option.map_eq_some_iff.mp hm
  cases hm
  refine ⟨W, en, S, d1, _, hE, hS, e1, fun v W1 H1 st r s => ?_⟩
  cases r with
  | nil => cases e3
  | cons r1 t1 =>
    cases t1 with
    | nil => cases e3
    | cons r2 t2 =>
      cases t2 with
      | nil => cases e3
      | cons r3 t3 =>
        cases t3 with
        | nil =>
          cases e3
          exact ⟨_, _, _, rfl, q _ W1 H1 st ((((hE.mono st).set r1 i).set r2 j).set r3 l) s⟩
        | cons r4 t4 => cases e3
end
/-! ### comparisons as tests -/
section
variable {X : Cx} {a b c : Expr} {pos : Pos} {ma mb mc : M}
theorem st_cmp {op : CmpOp} {r : R2} {f : F2} (ho : OpR X (compareOp op) r) (cf : Cov2 X.K X.mg r f) (ha : SE X a ma) (hb : SE X b mb) (hm : behindInMarks op b = false) : ST X (.Compare a [op] [b] pos) (tB1 (m2 f ma mb)) := pt_imp (pt_cmpR ho ha hb hm) fun σ H Q ⟨W, en, S, d, S', hE, hS, hm, q⟩ => by
  unfold tB1 at hm
  obtain ⟨⟨d1, S1⟩, e1, hm⟩ := Option.bind_eq_some_iff.mp hm
  dsimp only at hm
  split at hm
  · cases hm
    refine two_ok cf ⟨W, en, S, _, _, hE, hS, e1, fun v W' H' st r s => ?_⟩
    cases r
    exact ⟨_, rfl, q W' H' st s⟩
  · cases hm
theorem st_chain {op op' : CmpOp} {r r' : R2} {f g : F2} (ho : OpR X (compareOp op) r) (ho' : OpR X (compareOp op') r') (cf : Cov2 X.K X.mg r f) (cg : Cov2 X.K X.mg r' g) (ha : SE X a ma) (hb : SE X b mb) (hc : SE X c mc) (h1 : lastMarks [op, op'] [b, c] = false := by with_unfolding_all rfl) : ST X (.Compare a [op, op'] [b, c] pos) (tB1 (mCh f g ma mb mc)) := pt_imp (pt_chain ho ho' ha hb hc h1) fun σ H Q ⟨W, en, S, d, S', hE, hS, hm, q⟩ => by
  unfold tB1 mCh at hm
  obtain ⟨⟨d0, S0⟩, e0, hm⟩ := Option.bind_eq_some_iff.mp hm
  obtain ⟨⟨d1, S1⟩, e1, e0⟩ := Option.bind_eq_some_iff.mp e0
  obtain ⟨⟨d2, S2⟩, e2, e0⟩ := Option.bind_eq_some_iff.mp e0
  dsimp only at hm e2 e0
  refine ⟨W, en, S, d1, S1, hE, hS, e1, fun v1 W1 H1 st1 r1 s1 => ⟨W1, en, S1, d2, S2, hE.mono st1, s1, e2, fun v2 W2 H2 st2 r2 s2 => ?_⟩⟩
  split at e0
  · rename_i ef
    refine cf H2 W2 _ v1 v2 d1 d2 _ _ (r1.mono st2) r2 s2 ef fun v3 W3 H3 st3 r3 s3 => ?_
    cases r3
    refine ⟨true, rfl, iteT ?_⟩
    obtain ⟨⟨d3, S3⟩, e3, e0⟩ := Option.bind_eq_some_iff.mp e0
    obtain ⟨d4, e4, e0⟩ := Option.map_eq_some_iff.mp e0
    cases e0
    have st := (st1.trans st2).trans st3
    split at hm
    · cases hm
      refine ⟨W3, en, S2, d3, _, hE.mono st, s3, e3, fun v4 W4 H4 st4 r4 s4 => ?_⟩
      refine cg H4 W4 _ v2 v4 d2 d3 _ _ ((r2.mono st3).mono st4) r4 s4 e4 fun v' W' H' st' rv sv => ?_
      cases rv
      exact ⟨_, rfl, q W' H' ((st.trans st4).trans st') sv⟩
    · cases hm
  · rename_i ef
    cases e0
    cases hm
    refine cf H2 W2 _ v1 v2 d1 d2 _ _ (r1.mono st2) r2 s2 ef fun v3 W3 H3 st3 r3 s3 => ?_
    cases r3
    exact ⟨false, rfl, iteF ⟨_, rfl, q W3 H3 ((st1.trans st2).trans st3) s3⟩⟩
  · cases e0
theorem st_eq (hu : X.A.units + 64 < cLine) (ha : SE X a ma) (hb : SE X b mb) : ST X (.Compare a [.Eq] [b] pos) (tB1 (m2 fEq ma mb)) := st_cmp (op_eqD hu) cov_eq ha hb (nomark _)
theorem st_ne (hu : X.A.units + 64 < cLine) (ha : SE X a ma) (hb : SE X b mb) : ST X (.Compare a [.NotEq] [b] pos) (tB1 (m2 fNe ma mb)) := st_cmp (op_neD hu) cov_ne ha hb (nomark _)
theorem st_lt (ha : SE X a ma) (hb : SE X b mb) : ST X (.Compare a [.Lt] [b] pos) (tB1 (m2 fLt ma mb)) := st_cmp (op_lt.or op_lt_str) cov_lt ha hb (nomark _)
theorem st_gt (ha : SE X a ma) (hb : SE X b mb) : ST X (.Compare a [.Gt] [b] pos) (tB1 (m2 fGt ma mb)) := st_cmp (op_gt.or op_gt_str) cov_gt ha hb (nomark _)
theorem st_le (ha : SE X a ma) (hb : SE X b mb) : ST X (.Compare a [.LtE] [b] pos) (tB1 (m2 fLe ma mb)) := st_cmp (op_le.or op_le_str) cov_le ha hb (nomark _)
theorem st_ge (ha : SE X a ma) (hb : SE X b mb) : ST X (.Compare a [.GtE] [b] pos) (tB1 (m2 fGe ma mb)) := st_cmp (op_ge.or op_ge_str) cov_ge ha hb (nomark _)
theorem st_is (ha : SE X a ma) (hb : SE X b mb) : ST X (.Compare a [.Is] [b] pos) (tB1 (m2 fIs ma mb)) := st_cmp (op_isN.or op_is_bl) cov_is ha hb (nomark _)
theorem st_isN (ha : SE X a ma) (hb : SE X b mb) : ST X (.Compare a [.IsNot] [b] pos) (tB1 (m2 fIsN ma mb)) := st_cmp (op_notN.or op_isnot_bl) cov_isN ha hb (nomark _)
theorem st_in (ha : SE X a ma) (hb : SE X b mb) (hm : behindInMarks .In b = false := by rfl) : ST X (.Compare a [.In] [b] pos) (tB1 (m2 fIn ma mb)) := st_cmp (op_in_sign.or op_in_seq) cov_in ha hb hm
theorem st_notIn (ha : SE X a ma) (hb : SE X b mb) (hm : behindInMarks .NotIn b = false := by rfl) : ST X (.Compare a [.NotIn] [b] pos) (tB1 (m2 fNotIn ma mb)) := st_cmp (op_notIn_sign.or op_notIn_seq) cov_notIn ha hb hm
end
/-! ### sorted(set(xs)) -/
def uniqS : List Str → List Str
  | [] => []
  | x :: xs => if xs.contains x then uniqS xs else x :: uniqS xs
def fSortSet : F1 := fun S x => (lstOf S x).bind fun xs => if xs.length < 64 then (xs.mapM strD).map fun ss => .lst ((sortS (uniqS ss)).map .str) else none
end MM
set_option maxRecDepth 100000
set_option maxHeartbeats 1000000
namespace MM
open PySem PySem.Spec PyProof.Rows L2
/-! ### sets of a kind of keys -/
section
variable {P : Program} {w : World} {κ : Type} [DecidableEq κ] {kd : PySem.KeyKind P w κ} {kf : Value → κ} {A : Around} {E : Value → Shared → Prop} {s : Shared} {a : Addr}
/-- the key that stands in an entry -/
def entK (kf : Value → κ) (e : Int × Value) : κ := kf e.2
def EntOk (kd : PySem.KeyKind P w κ) (kf : Value → κ) (e : Int × Value) : Prop := kd.is (kf e.2) e.2 = true ∧ e.1 = kd.hash (kf e.2) ∧ e.2.scannable = true
/-- the entries of a set, its table and its members -/
structure SetB (kd : PySem.KeyKind P w κ) (kf : Value → κ) (es : Array (Int × Value)) (t : SetTable) (L : List κ) : Prop where
  ent : ∀ e ∈ es.toList, EntOk kd kf e
  nd : (es.toList.map (entK kf)).Nodup
  mem : ∀ k, k ∈ L ↔ k ∈ es.toList.map (entK kf)
  sz : es.size < scanBound
  fits : t.fits es.size = true
  ris : Ris t.place.toList
  led : w.params.followText "set-order" = true ∨ t.led = true
  cnt : es.size ≤ L.length
def SetG (kd : PySem.KeyKind P w κ) (kf : Value → κ) (h : Heap) (a : Addr) (L : List κ) : Prop := ∃ o es ep t, h.get? a = some o ∧ o.ExactSet ∧ o.data = .set es ep t ∧ SetB kd kf es t L
theorem SetB.els {es : Array (Int × Value)} {t : SetTable} {L : List κ} (B : SetB kd kf es t L) : ElemsOf kd es.toList := fun e he => ⟨⟨_, (B.ent e he).1, (B.ent e he).2.1⟩, (B.ent e he).2.2⟩
theorem SetB.has {es : Array (Int × Value)} {t : SetTable} {L : List κ} (B : SetB kd kf es t L) (k : κ) : k ∈ L ↔ ∃ e ∈ es.toList, kd.is k e.2 = true := by
  rw [B.mem k, List.mem_map]
  constructor
  · rintro ⟨e, he, rfl⟩; exact ⟨e, he, (B.ent e he).1⟩
  · rintro ⟨e, he, q⟩; exact ⟨e, he, kd.inj _ _ _ (B.ent e he).1 q⟩
theorem SetG.keep {h h' : Heap} {L : List κ} (R : SetG kd kf h a L) (k : ∀ o, h.get? a = some o → h'.get? a = some o) : SetG kd kf h' a L := let ⟨o, es, ep, t, ho, r⟩ := R; ⟨o, es, ep, t, k o ho, r⟩
/-- the last part of an add: the entries are stored, the table may grow -/
theorem set_stored {f : Bool → Sem Unit} (hf : ∀ (b : Bool) (s1 : Shared) (Q : Unit → Shared → Prop), Q () s1 → wpAny (model P w) A (f b) Q E s1) {o : Obj} {es es1 : Array (Int × Value)} {ep : Nat} {t t1 : SetTable} {L : List κ}
    (ho : s.heap.get? a = some o) (hx : o.ExactSet) (hd : o.data = .set es ep t) (B : SetB kd kf es1 t1 L) {dm : Bool} {Q : Option Bool → Shared → Prop}
    (q : ∀ h', Heap.SameBut a s.heap h' → SetG kd kf h' a L → Q (some true) { s with heap := h' }) :
    wpAny (model P w) A (storeSet a es1 t1 >>= fun _ => if (!dm && t1.tooFull) = true then f (relayAll t1 es1 (SetTable.grown es1.size)).2.2 >>= fun _ =>
      storeSet a (relayAll t1 es1 (SetTable.grown es1.size)).1 (relayAll t1 es1 (SetTable.grown es1.size)).2.1 >>= fun _ => pure (some true) else pure (some true)) Q E s := by
  have o1 := L2.store_at (es' := es1) (t' := t1) ho hd
  have b1 := Heap.SameBut.update s.heap a (Obj.putSet es1 t1)
  refine wpAny_bind (wpAny_storeSet_of ho hd ?_ (fits_of_scanBound B.sz))
  by_cases c : (!dm && t1.tooFull) = true
  · rw [if_pos c]
    have p1 := relayAll_perm t1 es1 (SetTable.grown es1.size)
    have p2 := relayAll_fits t1 es1 (SetTable.grown es1.size)
    have p3 := relayAll_ris t1 es1 (SetTable.grown es1.size)
    have p4 := relayAll_led t1 es1 (SetTable.grown es1.size)
    revert p1 p2 p3 p4
    generalize relayAll t1 es1 (SetTable.grown es1.size) = z
    rcases z with ⟨es2, t2, gv⟩
    intro p1 p2 p3 p4
    have zs : es2.size = es1.size := by simpa using p1.length_eq
    have hs : es2.size < scanBound := zs ▸ B.sz
    refine wpAny_bind (hf _ _ _ (wpAny_bind (wpAny_storeSet_of o1 rfl (wpAny_pure (q _ (b1.trans (Heap.SameBut.update _ a _)) ?_)) (fits_of_scanBound hs))))
    exact ⟨_, es2, _, t2, L2.store_at (es' := es2) (t' := t2) o1 rfl, hx, rfl, fun e he => B.ent e (p1.mem_iff.mp he), (p1.map _).nodup_iff.mpr B.nd, fun k => (B.mem k).trans (p1.map _).mem_iff.symm, hs, p2, p3, B.led.imp id fun z => p4.trans z, zs ▸ B.cnt⟩
  · rw [if_neg c]
    exact wpAny_pure (q _ b1 ⟨_, es1, _, t1, o1, hx, rfl, B⟩)
/-- one more -/
theorem set_put {k : κ} {x : Value} {L : List κ} {Q : Bool → Shared → Prop} (hk : kd.is k x = true) (hkf : kf x = k) (hs : x.scannable = true) (R : SetG kd kf s.heap a L) (room : L.length + 1 < scanBound)
    (q : ∀ b h', Heap.SameBut a s.heap h' → SetG kd kf h' a (k :: L) → Q b { s with heap := h' }) : wpAny (model P w) A (setAddHashed a x (kd.hash k)) Q E s := by
  obtain ⟨o, es, ep, t, ho, hx, hd, B⟩ := R
  have rm : es.size + 1 < scanBound := by have := B.cnt; omega
  unfold setAddHashed setAddHashedIn
  refine wpAny_holding (wpAny_bind (wpAny_setState_of ho hd B.fits ?_))
  dsimp only
  rw [byScan_of hs B.sz B.els]
  simp only [↓reduceIte]
  unfold setAddByScan
  refine wpAny_bind (wpAny_bind (wpAny_rule (wpAny_bind (wpAny_setScan_of hk ho hd B.fits B.els ?_))))
  cases fi : List.findIdx? (fun e => kd.is k e.2) es.toList with
  | some j =>
    dsimp only
    obtain ⟨hj, pj, _⟩ := List.findIdx?_eq_some_iff_getElem.mp fi
    have kin : k ∈ L := (B.has k).mpr ⟨_, List.getElem_mem hj, pj⟩
    exact wpAny_pure (wpAny_pure (q _ _ (Heap.SameBut.refl a s.heap) ⟨o, es, ep, t, ho, hx, hd, B.ent, B.nd, fun i => ⟨fun z => (List.mem_cons.mp z).elim (fun e => (B.mem i).mp (e ▸ kin)) (B.mem i).mp, fun z => List.mem_cons_of_mem _ ((B.mem i).mpr z)⟩, B.sz, B.fits, B.ris, B.led, Nat.le_succ_of_le B.cnt⟩))
  | none =>
    dsimp only
    have nin : k ∉ es.toList.map (entK kf) := fun z => by
      obtain ⟨e, he, y⟩ := (B.has k).mp ((B.mem k).mpr z)
      have c := List.findIdx?_eq_none_iff.mp fi e he
      rw [y] at c
      cases c
    have fine : ∀ (b : Bool) (s1 : Shared) (Q' : Unit → Shared → Prop), Q' () s1 → wpAny (model P w) A (match b with | true => rule "set.scan.the-table-gave-way" | false => pure ()) Q' E s1 := fun b s1 Q' y => by
      cases b
      · exact wpAny_pure y
      · exact wpAny_rule y
    have p1 := layNew_perm t es (kd.hash k) x
    have p2 := layNew_fits t es (kd.hash k) x
    have p3 := layNew_ris t es (kd.hash k) x B.ris
    have p4 := layNew_led t es (kd.hash k) x
    revert p1 p2 p3 p4
    generalize layNew t es (kd.hash k) x = z
    rcases z with ⟨es1, t1, dm, gv⟩
    intro p1 p2 p3 p4
    have pc : es1.toList.Perm ((kd.hash k, x) :: es.toList) := by
      dsimp only at p1
      rw [Array.toList_push] at p1
      exact p1.trans (List.perm_append_singleton _ _)
    have pk := pc.map (entK kf)
    rw [List.map_cons, show entK kf (kd.hash k, x) = k from hkf] at pk
    have z1 : es1.size = es.size + 1 := by simpa using pc.length_eq
    have B1 : ∀ t2 : SetTable, t2.fits es1.size = true → Ris t2.place.toList → t2.led = t.led → SetB kd kf es1 t2 (k :: L) := fun t2 f2 r2 l2 =>
      ⟨fun e he => (List.mem_cons.mp (pc.mem_iff.mp he)).elim (fun e1 => by subst e1; exact ⟨by rw [hkf]; exact hk, by rw [hkf], hs⟩) (B.ent e), pk.nodup_iff.mpr (List.nodup_cons.mpr ⟨nin, B.nd⟩),
        fun i => by rw [pk.mem_iff, List.mem_cons, List.mem_cons, B.mem i], by rw [z1]; exact rm, f2, r2, B.led.imp id fun z => l2.trans z, by rw [z1, List.length_cons]; exact Nat.succ_le_succ B.cnt⟩
    refine wpAny_bind (fine _ _ _ ?_)
    split
    · refine wpAny_bind ?_
      rw [hashByValue_scannable 8 hs]
      refine wpAny_pure ?_
      refine set_stored (kd := kd) (kf := kf) (L := k :: L) (fun b s1 Q' y => by cases b <;> first | exact wpAny_pure y | exact wpAny_rule y) ho hx hd (B1 _ ?_ ?_ ?_) fun h' sb r => ?_
      · first | (split <;> first | exact p2 | exact SetTable.fits_plain_off p2) | exact p2
      · first | (split <;> exact p3) | exact p3
      · first | (split <;> exact p4) | exact p4
      · dsimp only; exact wpAny_pure (q _ h' sb r)
    · refine wpAny_bind (wpAny_pure ?_)
      simp only [↓reduceIte]
      refine set_stored (kd := kd) (kf := kf) (L := k :: L) (fun b s1 Q' y => by cases b <;> first | exact wpAny_pure y | exact wpAny_rule y) ho hx hd (B1 _ p2 p3 p4) fun h' sb r => ?_
      dsimp only; exact wpAny_pure (q _ h' sb r)
theorem SetG.same {h : Heap} {L L' : List κ} (R : SetG kd kf h a L) (m : ∀ k, k ∈ L ↔ k ∈ L') (l : L.length ≤ L'.length) : SetG kd kf h a L' :=
  let ⟨o, es, ep, t, ho, hx, hd, B⟩ := R
  ⟨o, es, ep, t, ho, hx, hd, B.ent, B.nd, fun k => (m k).symm.trans (B.mem k), B.sz, B.fits, B.ris, B.led, Nat.le_trans B.cnt l⟩
theorem SetG.new (kd : PySem.KeyKind P w κ) (kf : Value → κ) {h : Heap} : SetG kd kf (h.push { cls := .type "set", dict := none, data := .set #[] 0 (.fresh 0 0 (!w.params.followText "set-order")) }) h.objs.size [] :=
  ⟨_, #[], 0, _, Heap.get?_push_size _ rfl, ⟨rfl, rfl, rfl⟩, rfl, (fun e he => by simp at he), .nil, (fun k => by simp), by decide, rfl, .nil, by
    show _ ∨ (!w.params.followText "set-order") = true
    cases w.params.followText "set-order" <;> simp, Nat.le_refl _⟩
/-- what the values of a walk are: the i-th is the i-th of xs -/
def ValAt (kd : PySem.KeyKind P w κ) (kf : Value → κ) (xs : List κ) (i : Nat) (v : Value) : Prop := ∃ x, xs[i]? = some x ∧ kd.is x v = true ∧ kf v = x ∧ v.scannable = true
theorem set_fill {R : Result → Shared → Prop} {I S : Addr} {fp wr : List Addr} {G : Array GenState → Array GenState → Prop} {Pv : Nat → Value → Prop} {St : Nat → Shared → Prop} {xs : List κ} (W : WalksS P w A.in1 I fp wr G xs.length Pv St) (hS : S ∉ fp) (hl : xs.length + 1 < scanBound)
    (hv : ∀ i v, Pv i v → ValAt kd kf xs i v) : ∀ (m i : Nat) (s : Shared), i + m = xs.length → St i s → SetG kd kf s.heap S (xs.take i) →
      (∀ s', Moved (S :: wr) G s s' → SetG kd kf s'.heap S xs → R (.ok (.ret .none)) s') → codeAny (model P w) A (.builtin "set.update.loop" ⟨[.ref S, .ref I], []⟩) R s := by
  have nw : S ∉ wr := fun h => hS (W.sub _ h)
  have sub : ∀ b ∈ wr, b ∈ S :: wr := fun b hb => List.mem_cons_of_mem _ hb
  intro m
  induction m with
  | zero =>
    intro i s hi hst hR hq
    have hi : i = xs.length := by omega
    subst hi
    refine codeAny_builtin F.entry_set_update_loop ?_
    rw [Around.under_plainId F.plain_set_update_loop _]
    show wpAny _ A.in1 (pyNext (.ref I) >>= _) _ _ s
    refine wpAny_bind (W.done s _ _ hst fun s' hm => ?_)
    show wpAny _ A.in1 (ret Value.none) _ _ s'
    rw [List.take_length] at hR
    exact wpAny_pure (hq s' (hm.mono sub) (hR.keep fun o e => hm.heap S o nw e))
  | succ m ih =>
    intro i s hi hst hR hq
    refine codeAny_builtin F.entry_set_update_loop ?_
    rw [Around.under_plainId F.plain_set_update_loop _]
    show wpAny _ A.in1 (pyNext (.ref I) >>= _) _ _ s
    refine wpAny_bind (W.item i s _ _ (by omega) hst fun v s' hP hst' hm => ?_)
    obtain ⟨x, hx, hk, hkf, hsc⟩ := hv i v hP
    have hR' := hR.keep (h' := s'.heap) fun o e => hm.heap S o nw e
    show wpAny _ A.in1 (holding [v] (setAdd S v) >>= _) _ _ s'
    refine wpAny_bind (wpAny_holding ?_)
    unfold setAdd
    refine wpAny_holding (wpAny_bind (kd.pyHash hk ?_))
    refine set_put (s := { s' with toks := s'.toks + 1 }) hk hkf hsc hR' (by simp; omega) fun b h' sb r => ?_
    have r' : SetG kd kf h' S (xs.take (i + 1)) := r.same (fun k => by rw [List.take_succ, hx]; simp [or_comm]) (by simp; omega)
    refine wpAny_pure ⟨plainId_quiet F.plain_set_update_loop _, ih (i + 1) _ (by omega) (W.frame _ s' _ _ hst' (Nat.le_succ _) fun b hb o e => ?_) r' fun s2 hm2 r2 => ?_⟩
    · rw [sb.2 b (fun z : b = S => hS (by rw [← z]; exact hb))]; exact e
    · refine hq s2 (Moved.trans W.gtrans ((hm.mono sub).then_heap (Nat.le_succ _) fun b o hb e => ?_) hm2) r2
      rw [sb.2 b (fun z : b = S => hb (by rw [z]; exact List.mem_cons_self))]; exact e
end
end MM
set_option maxRecDepth 100000
set_option maxHeartbeats 4000000
namespace MM
open PySem PySem.Spec PyProof.Rows L2
theorem code_set_led_1 {P : Program} {w : World} {A : Around} {E : Value → Shared → Prop} {s : Shared} (a : Value) {Q₁ : Value → Shared → Prop}
    (h : Q₁ (.ref s.heap.objs.size) { s with heap := s.heap.push { cls := .type "set", dict := none, data := .set #[] 0 (.fresh 0 0 (!w.params.followText "set-order")) } }) :
    codeAny (model P w) A (.call (.builtin "set.__new__") ⟨[.type "set", a], []⟩) (wants Q₁ E) s := by
  refine codeAny_of_tree ?_
  show wpAny _ A.in1 (do checkBuiltinCall "set.__new__" ⟨[.type "set", a], []⟩; again (.builtin "set.__new__" ⟨[.type "set", a], []⟩)) _ _ s
  refine wpAny_bind (wpAny_of_eq (PySem.F.newCall_set_1 a) (wpAny_pure ⟨plainId_quiet F.plain_set_new _, codeAny_builtin F.entry_set_new ?_⟩))
  rw [Around.under_plainId F.plain_set_new _]
  unfold Builtin.«set.__new__» Builtin.Frozenset.newClass
  have hsub := sub_set_self
  obtain ⟨hp, g, d, tk, os⟩ := s
  dsimp only
  wp_walk
  refine wpAny_askSetting (wpAny_pure ?_)
  dsimp only
  simp only [newObj]
  refine wpAny_bind (wpAny_alloc (wpAny_pure ?_))
  exact wpAny_pure h
section
variable {P : Program} {w : World} {A : Around} {E : Value → Shared → Prop} {s : Shared} {κ : Type} [DecidableEq κ] {kd : PySem.KeyKind P w κ} {kf : Value → κ}
theorem set_of_list {l : Addr} {items : Array Value} {xs : List κ} {Q : Value → Shared → Prop}
    (hh : A.handled = none) (hl : s.heap.IsList l items) (hsz : xs.length = items.size) (hb : xs.length + 1 < scanBound)
    (hval : ∀ i v, items[i]? = some v → ValAt kd kf xs i v)
    (h : ∀ (h' : Heap) (tk : Nat), SetG kd kf h' s.heap.objs.size xs →
      (∀ b o, b < s.heap.objs.size → s.heap.get? b = some o → h'.get? b = some o) → Q (.ref s.heap.objs.size) { s with heap := h', toks := tk }) :
    wpAny (model P w) A (call (.type "set") [.ref l]) Q E s := by
  obtain ⟨c, tl, hmro⟩ := PySem.F.called_set.mro
  have hmade := PySem.F.called_set.made
  have hsub := PySem.F.called_set.sub
  refine wpAny_call (codeAny_of_tree ?_)
  show wpAny _ _ (callAny (.type "set") _) _ _ _
  refine wpAny_pure ⟨Code.quiet_builtin _ (by decide +kernel), codeAny_builtin PySem.F.entry_type_call ?_⟩
  rw [Around.under_plain (weight_type_call_type "set" [.ref l] []) rfl]
  have h1 := PySem.F.called_set.notType
  have h2 := PySem.F.called_set.canCreate
  have hct := PySem.F.typeCall_set_1 (.ref l)
  repeat (any_goals (first | assumption | wp_step))
  refine codeAny_mono (code_set_led_1 (.ref l) (E := E) (Q₁ := fun obj s₁ => obj = .ref s.heap.objs.size ∧ s₁ = { s with heap := s.heap.push { cls := .type "set", dict := none, data := .set #[] 0 (.fresh 0 0 (!w.params.followText "set-order")) } }) ⟨rfl, rfl⟩) fun r s₁ hr => ?_
  cases r with
  | error e => exact hr
  | ok fl =>
    cases fl with
    | ret obj =>
      obtain ⟨rfl, rfl⟩ := hr
      have hS : (s.heap.push { cls := .type "set", dict := none, data := .set #[] 0 (.fresh 0 0 (!w.params.followText "set-order")) }).get? s.heap.objs.size = some { cls := .type "set", dict := none, data := .set #[] 0 (.fresh 0 0 (!w.params.followText "set-order")) } := Heap.get?_push_size _ rfl
      have hT : Shared.TypeIs { s with heap := s.heap.push { cls := .type "set", dict := none, data := .set #[] 0 (.fresh 0 0 (!w.params.followText "set-order")) } } (.ref s.heap.objs.size) "set" := ⟨_, hS, rfl⟩
      have hli := PySem.F.called_set.init.lookup
      have hbi := PySem.F.called_set.init.bind (.ref s.heap.objs.size)
      repeat (any_goals (first | assumption | wp_step))
      refine codeAny_mono (codeAny_call_builtin (R := wants (fun r s₂ => r = .none ∧ ∃ h' tk, s₂ = { s with heap := h', toks := tk } ∧
          SetG kd kf h' s.heap.objs.size xs ∧
          (∀ b o, b < s.heap.objs.size → s.heap.get? b = some o → h'.get? b = some o)) E) PySem.F.called_set.init.plain PySem.F.entry_set_init (check_set_init_1 hT ?_)) fun r₂ s₂ hr₂ => ?_
      · obtain ⟨ol, hol, hcl, nl, hdl⟩ := hl
        obtain ⟨ocls, odict, odata, oslots⟩ := ol
        simp only at hcl hdl
        subst hcl; subst hdl
        have hol' : (s.heap.push { cls := .type "set", dict := none, data := .set #[] 0 (.fresh 0 0 (!w.params.followText "set-order")) }).get? l = some { cls := .type "list", dict := odict, data := .seq items nl, slots := oslots } := Heap.get?_push_of_some _ hol
        have hsls := PySem.F.sub_list_set
        have hslf := PySem.F.sub_list_frozenset
        have hne : (Value.type "list" == Value.type "dict") = false := by decide
        have hl1 : (s.heap.push { cls := .type "set", dict := none, data := .set #[] 0 (.fresh 0 0 (!w.params.followText "set-order")) }).IsList l items := ⟨_, hol', rfl, nl, rfl⟩
        unfold Builtin.«set.__init__» noKeywords Builtin.Frozenset.updateFrom
        generalize hPI : pyIter = PI
        wp_walk
        subst hPI
        refine wpAny_pyIter_list hl1 ?_
        refine wpAny_bind (wpAny_runValue ?_)
        have hlS : l < s.heap.objs.size := Heap.lt_size hol
        have hh3 : A.in1.in1.in1.handled = none := by simp [hh]
        have hneI : l ≠ (s.heap.push { cls := .type "set", dict := none, data := .set #[] 0 (.fresh 0 0 (!w.params.followText "set-order")) }).objs.size := by
          rw [Heap.size_push]; exact Nat.ne_of_lt (Nat.lt_succ_of_lt hlS)
        have hSf : s.heap.objs.size ∉ [(s.heap.push { cls := .type "set", dict := none, data := .set #[] 0 (.fresh 0 0 (!w.params.followText "set-order")) }).objs.size, l] := by
          rw [Heap.size_push]; simp only [List.mem_cons, List.mem_singleton, List.not_mem_nil, or_false, not_or]
          exact ⟨Nat.ne_of_lt (Nat.lt_succ_self _), Nat.ne_of_gt hlS⟩
        have W := (Walks.list (prog := P) (w := w) hh3 _ l hneI items).toS
        rw [← hsz] at W
        refine set_fill W hSf hb hval (xs.length - 0) 0 _ (by omega)
          ⟨⟨_, Heap.get?_push_size _ rfl, rfl, rfl⟩, (hl1.push _)⟩ ?hS0 ?hR
        case hS0 =>
          rw [List.take_zero]
          exact (SetG.new kd kf).keep fun o e => Heap.get?_push_of_some _ e
        case hR =>
          intro s' hm hS'
          obtain ⟨h', g', d', tk', os'⟩ := s'
          have eg : g' = s.gens := hm.gens
          have ed : d' = s.drawn := hm.drawn
          have eo : os' = s.os := hm.os
          subst eg; subst ed; subst eo
          show wpAny _ _ _ _ _ _
          refine wpAny_pure ?_
          show wpAny _ _ (ret Value.none) _ _ _
          refine wpAny_pure ⟨rfl, h', tk', rfl, hS', fun b o hb e => ?_⟩
          have hb1 : b ≠ s.heap.objs.size := Nat.ne_of_lt hb
          have hb2 : b ≠ (s.heap.push { cls := .type "set", dict := none, data := .set #[] 0 (.fresh 0 0 (!w.params.followText "set-order")) }).objs.size := by
            rw [Heap.size_push]; exact Nat.ne_of_lt (Nat.lt_succ_of_lt hb)
          exact hm.heap b o (by simp only [List.mem_cons, List.mem_singleton, List.not_mem_nil, or_false, not_or]; exact ⟨hb1, hb2⟩) (Heap.get?_push_of_some _ (Heap.get?_push_of_some _ e))
      · cases r₂ with
        | error e => exact hr₂
        | ok fl₂ =>
          cases fl₂ with
          | ret r =>
            obtain ⟨rfl, h', tk, rfl, hS', hk'⟩ := hr₂
            repeat (any_goals (first | assumption | wp_step))
            exact h _ _ hS' hk'
          | _ => exact hr₂.elim
    | _ => exact hr.elim
end
section
variable {P : Program} {w : World} {A : Around} {E : Value → Shared → Prop} {s : Shared}
def strOf : Value → Str
  | .str x _ => x
  | _ => Str.empty
theorem strs_are : ∀ (l : List Value), (∀ v ∈ l, ∃ k tk, v = Value.str k tk) → StrsAre l (l.map strOf)
  | [], _ => .nil
  | v :: l, h => by
    obtain ⟨k, tk, rfl⟩ := h v List.mem_cons_self
    exact .cons k tk (strs_are l fun u hu => h u (List.mem_cons_of_mem _ hu))
theorem sorted_setS {a : Addr} {L : List Str} {Q : Value → Shared → Prop} (R : SetG (PySem.strKind P w) strOf s.heap a L) (hh : A.handled = none) (h64 : L.length < 64)
    (hQ : ∀ s' p (out : Array Value) (c : Nat) (ns : List Str), (∀ b o, s.heap.get? b = some o → s'.heap.get? b = some o) → s'.gens = s.gens → s'.os = s.os → s.heap.objs.size ≤ p →
      s'.heap.get? p = some (seqObj "list" out c) → StrsAre out.toList ns → sortedS ns = true → ns.Nodup → (∀ k, k ∈ ns ↔ k ∈ L) → ns.length < 64 → Q (.ref p) s') :
    wpAny (model P w) A (call (.builtin "sorted") [.ref a]) Q E s := by
  obtain ⟨o, es, ep, t, ho, hex, hd, B⟩ := R
  refine Calls.call_function_entry kind_sorted plain_sorted entry_sorted (args_sorted1 _) ?_
  unfold Builtin.«sorted»
  refine wpAny_bind (m := checkCount "sorted" 1 1 _) (wpAny_pure ?_)
  refine wpAny_bind (collect_set (A := A.in1) hh ⟨o, ho, hex.1, hd⟩ B.fits B.sz B.ris B.led fun s1 vs k1 hz g1 o1 pm => ?_)
  have hvl : vs.length < 64 := by
    rw [pm.length_eq, List.length_map, Array.length_toList]; exact Nat.lt_of_le_of_lt B.cnt h64
  have hI : StrsAre vs (vs.map strOf) := strs_are vs fun v hv => by
    obtain ⟨e, he, q⟩ := List.mem_map.mp (pm.mem_iff.mp hv)
    obtain ⟨h1, _, _⟩ := B.ent e he
    rw [← q]
    obtain ⟨t, et⟩ := Value.isStrOf_shape (x := strOf e.2) (v := e.2) h1
    exact ⟨_, t, et⟩
  have pk : (vs.map strOf).Perm (es.toList.map (entK strOf)) := by
    have q := pm.map strOf
    rw [List.map_map] at q
    exact q
  refine wpAny_bind (wpAny_newList ?_ (by rw [sizeLine_eq]; omega))
  have hoL : (s1.heap.push (seqObj "list" vs.toArray 0)).get? s1.heap.objs.size = some (seqObj "list" vs.toArray 0) := Heap.get?_push_size _ rfl
  refine wpAny_bind (wpAny_holding (wpAny_call_entry slot_list_sort ⟨_, hoL, rfl⟩ entry_list_sort
    (list_sort_treeK strKind_oneLt hoL hI.keysOf (fun v₁ v₂ rest e => keyKind_strs (by rw [← e]; exact hI)) hvl fun st' hp hs => ⟨_, rfl, ?_⟩) (args_list_sort _)))
  obtain ⟨ys, g1', g2, g3⟩ := sorted_out_str hI hp hs
  obtain ⟨c, hc⟩ := sortedHeap_at (vs := vs) (out := (arrOf st').map (·.2)) hoL
  have pn : ys.Perm (es.toList.map (entK strOf)) := g2.trans pk
  refine wpAny_pure ⟨_, rfl, hQ _ s1.heap.objs.size ((arrOf st').map (·.2)) c ys (fun b u e => ?_) g1 o1 hz hc g1' g3 (pn.nodup_iff.mpr B.nd) (fun k => by rw [pn.mem_iff, ← B.mem k]) ?_⟩
  · have q := k1 b u e
    have hlt := Heap.lt_size q
    show (sortedHeap (s1.heap.push (seqObj "list" vs.toArray 0)) s1.heap.objs.size vs ((arrOf st').map (·.2))).get? b = some u
    rw [sortedHeap_old (Nat.ne_of_lt hlt) (by rw [size_push']; exact Nat.lt_succ_of_lt hlt)]
    exact Heap.get?_push_of_some _ q
  · rw [g2.length_eq, List.length_map]; exact hvl
end
end MM
set_option maxRecDepth 100000
set_option maxHeartbeats 4000000
namespace MM
open PySem PySem.Spec PyProof.Rows L2
variable [TB : Tabl]
def SetSO (P : Program) (w : World) (a : Addr) (L : List Str) : HO := .ext fun h => SetG (PySem.strKind P w) strOf h a L
section
variable {X : Cx}
theorem setSO_new {w : World} {P : Program} {H : Hp} {h : Heap} {a : Addr} {L : List Str} (R : SetG (PySem.strKind P w) strOf h a L) : ObjOk P w H h a (SetSO P w a L) := by
  have ⟨o, _, _, _, ho, _⟩ := R
  exact ⟨R, ⟨o, ho⟩, fun h1 h2 p k => p.keep k⟩
theorem strs_val : ∀ {xs : List Str} {us : List Value}, Vals (xs.map V.str) us → ∀ (i : Nat) (v : Value), us[i]? = some v → ∃ x t, xs[i]? = some x ∧ v = .str x t
  | [], _, .nil, i, v, h => by simp at h
  | x :: xs, _, .cons r t, 0, v, h => by
    obtain ⟨k, rfl⟩ := r
    simp at h
    exact ⟨x, k, rfl, h.symm⟩
  | x :: xs, _, .cons r t, i + 1, v, h => by
    simp only [List.getElem?_cons_succ] at h
    obtain ⟨y, k, e1, e2⟩ := strs_val t i v h
    exact ⟨y, k, by simpa using e1, e2⟩
def rSetOfS (K : PySem.W.Frag) (P : Program) (w : World) : List V → Hp → VK → Prop := fun xs H Q => ∃ (l : Addr) (ks : List Str), xs = [V.ref l] ∧ SqL K H l (ks.map V.str) ∧ ks.length < 64 ∧
  ∀ p, H p = none → Q (.ref p) (upd H p (SetSO P w p ks))
theorem cr_setOfS (hc : X.calm = true) : CallR X (.type "set") (rSetOfS X.K X.prog X.w) := by
  intro pins s σ H xs us Q I r h
  obtain ⟨l, ks, rfl, hl, hf, q⟩ := h
  rw [Vals.ref1 r]
  obtain ⟨its, rv, pl, hz⟩ := I.list hl
  have hn : H s.heap.objs.size = none := I.hok.fresh (Nat.le_refl _)
  have hlen : ks.length = its.length := by have := rv.length; simpa using this
  refine set_of_list (kd := PySem.strKind X.prog X.w) (kf := strOf) (xs := ks) (I.ok.hd hc) pl.isList (by simpa using hlen) (by unfold scanBound; omega) (fun i v hv => ?_) fun h' tk R k => ?_
  · obtain ⟨x, t, e1, e2⟩ := strs_val rv i v (by simpa using hv)
    subst e2
    exact ⟨x, e1, strKind_is _ _ _ _, rfl, rfl⟩
  · exact ⟨.ref s.heap.objs.size, upd H s.heap.objs.size (SetSO X.prog X.w s.heap.objs.size ks), I.laid (t' := tk) (fun b u e => k b u (Heap.lt_size e) e) (Nat.le_refl _) (setSO_new R), rfl, q _ hn⟩
def rSortedSS (P : Program) (w : World) : List V → Hp → VK → Prop := fun vs H Q => ∃ (a : Addr) (L : List Str), vs = [V.ref a] ∧ H a = some (SetSO P w a L) ∧ L.length < 64 ∧
  ∀ (ns : List Str), sortedS ns = true → ns.Nodup → (∀ k, k ∈ ns ↔ k ∈ L) → ∀ p, H p = none → Q (.ref p) (upd H p (.lst (ns.map V.str)))
theorem cr_sortedSS (hc : X.calm = true) : CallR X (.builtin "sorted") (rSortedSS X.prog X.w) := by
  intro pins s σ H vs us Q I r h
  obtain ⟨a, L, rfl, ha, h64, q⟩ := h
  have R : SetG (PySem.strKind X.prog X.w) strOf s.heap a L := (I.hok a _ ha).1
  rw [Vals.ref1 r]
  refine sorted_setS R (I.ok.hd hc) h64 fun s' p out c ns k g o hp hg hout h1 h2 h3 h4 => ?_
  have hlen : (ns.map V.str).length ≤ sizeLine := by rw [List.length_map, sizeLine_eq]; omega
  have hn : H p = none := I.hok.fresh hp
  have J : Inv X pins σ (upd H p (.lst (ns.map V.str))) { s with heap := s'.heap, gens := s'.gens, drawn := s'.drawn, toks := s'.toks } :=
    I.call (ch := []) (Un.laid k hp hn) (I.hok.laid k hp ⟨hlen, out.toList, c, vals_of_strs hout, hg⟩) (by rw [g]; exact I.bare) (fun _ z => nomatch z)
  have e : s' = { s with heap := s'.heap, gens := s'.gens, drawn := s'.drawn, toks := s'.toks } := by
    cases s'
    cases s
    cases o
    rfl
  rw [e]
  exact ⟨.ref p, _, J, rfl, q ns h1 h2 h3 p hn⟩
theorem uniqS_mem {k : Str} : ∀ {l : List Str}, k ∈ uniqS l ↔ k ∈ l
  | [] => Iff.rfl
  | x :: xs => by
    unfold uniqS
    split
    · rename_i h
      rw [uniqS_mem, List.mem_cons]
      exact ⟨.inr, fun z => z.elim (fun e => by rw [e]; simpa using h) id⟩
    · rw [List.mem_cons, List.mem_cons, uniqS_mem]
theorem uniqS_nodup : ∀ l : List Str, (uniqS l).Nodup
  | [] => .nil
  | x :: xs => by
    unfold uniqS
    split
    · exact uniqS_nodup xs
    · rename_i h
      exact List.nodup_cons.mpr ⟨fun z => h (by simpa using uniqS_mem.mp z), uniqS_nodup xs⟩
theorem sortU {ns L : List Str} (h1 : sortedS ns = true) (h2 : ns.Nodup) (h3 : ∀ k, k ∈ ns ↔ k ∈ L) : ns = sortS (uniqS L) :=
  sortS_eq ((List.perm_ext_iff_of_nodup h2 (uniqS_nodup L)).mpr fun k => (h3 k).trans uniqS_mem.symm) (sortedS_pw h1)
variable {a : Expr} {p p2 q pos : Pos} {ma : M}
theorem sc_sortset (hc : X.calm = true) (hg : Gl X "sorted") (hm : X.mg "sorted" = none) (hg2 : Gl X "set") (hm2 : X.mg "set" = none) (ha : SE X a ma) (he : starEach [a] X.env = (false, eval a X.env) :: starEach [] X.env := by rfl)
    (he2 : starEach [.Call (.Name "set" p2) [a] [] q] X.env = (false, eval (.Call (.Name "set" p2) [a] [] q) X.env) :: starEach [] X.env := by rfl) :
    SC X (.Call (.Name "sorted" p) [.Call (.Name "set" p2) [a] [] q] [] pos) (m1 fSortSet ma) :=
  pe_imp (pe_callB (cr_sortedSS hc) hg hm (by decide +kernel) (pa_cons (pe_callTy (cr_setOfS hc) hg2 hm2 (by decide +kernel) (pa_cons ha pa_nil he) (by decide) (by decide) he rfl) pa_nil he2) (by decide) (by decide) he2 rfl)
    fun σ H Q ⟨W, en, S, d, S', hE, hS, hm, q⟩ => by
      obtain ⟨d1, h1, h2⟩ := m1_eq hm
      refine ⟨W, en, S, d1, S', hE, hS, h1, fun v W' H' st rv s' => ?_⟩
      obtain ⟨xs, h3, h2⟩ := Option.bind_eq_some_iff.mp h2
      obtain ⟨b, vs, rfl, hq, r1⟩ := rv.lstS s' h3
      split at h2
      · rename_i hz
        obtain ⟨ss, h4, h2⟩ := Option.map_eq_some_iff.mp h2
        subst h2
        have e := r1.length
        rw [strs_ok r1 h4] at hq e
        refine ⟨b, ss, rfl, hq, by rw [List.length_map] at e; omega, fun p1 hp1 => ⟨p1, ss, rfl, upd_same, by rw [List.length_map] at e; omega, fun ns n1 n2 n3 p2 hp2 => ?_⟩⟩
        rw [sortU n1 n2 n3]
        have t1 : Step W' H' W' (upd H' p1 (SetSO X.prog X.w p1 ss)) := Step.laid hp1
        have s2 := s'.laid (o := SetSO X.prog X.w p1 ss) hp1
        exact new_list s2 (Reps.strs _) (fun p3 H3 st3 h3 hx hh ho => q p3 W' H3 ((st.trans t1).trans st3) (st.free (t1.free h3)) (s2.nw h3) hx hh ho) p2 hp2
      · cases h2
end
end MM
set_option maxRecDepth 100000
set_option maxHeartbeats 2000000
namespace MM
open PySem PySem.Spec PyProof.Rows L2
variable [TB : Tabl]
def spLaw (K : PySem.W.Frag) : Sp := fun vs H Q _ => ∃ (a : Addr) (ns : List Int), vs = [.ref a] ∧ ns.length ≤ 63 ∧ NoLst H ∧ TbOk H ∧ SqL K H a (ns.map V.int) ∧ ∀ H', Q (.bl true) H'
theorem law_imp {K : PySem.W.Frag} {mg : Str → Option Value} {F : Fn} (h : LawOk F) (vs : List V) (H : Hp) (Q : VK) (E : XK) (x : spLaw K vs H Q E) : spOf K mg F 1 vs H Q E := by
  obtain ⟨a, ns, rfl, hl, ho, htb, hs, q⟩ := x
  obtain ⟨h1, W, S, ds, d, S', r, s, e, z⟩ := law_sp (mg := mg) h hl ho htb hs
  refine ⟨h1, W, S, ds, d, S', r, s, e, fun v W' H' st rv sv => ?_⟩
  have ev : v = .bl true := z v W' H' st rv sv
  rw [ev]
  exact q H'
theorem raw_mk {K : PySem.W.Frag} {h : Heap} {mg : Str → Option Value} {x : Str} {st : Stmt} {f : Addr} {od an : Option Addr} {sl : Array (Option Value)} {oc kV dc pm cd ct : Value} (X : K.In h) (G : h.Ns mainGlobals mg)
    (a : PySem.W.nsIn K mainGlobals x = some (some (.ref f))) (l : K.lookup f = some ⟨oc, od, .func (PySem.W.fnOf x x (defArgs st) (defBody st) (defScope st) .none kV dc pm an cd ct), sl⟩) (c : PySem.W.codeIn K cd x = true) (k : PySem.W.keepIn K (.ref f) = true) : Raw K mg x st :=
  ⟨f, _, fun_mk l c k, PySem.W.mg_of X G a⟩
theorem law_all {l : PySem.W.OpenLaw} {w : World} {K : PySem.W.Frag} {mg : Str → Option Value} {st : Stmt} {k : Nat} {F : Fn} {x p : Str} {fa : Addr} (hl : LawOk F) (hfa : mg x = some (.ref fa))
    (hb : ∀ f fd, Fun K x x st f fd → ∀ (s : Shared) (v : Value), BindsTo s fd ⟨[v], []⟩ [(p, v)]) (R : Raw K mg x st)
    (G : ∀ base : Heap, Df l.prog w K mg base x st k [p] F 1) :
    ∃ fd : FuncData, (∀ (s : Shared) (v : Value), BindsTo s fd ⟨[v], []⟩ [(p, v)]) ∧ ∀ base : Heap, K.In base → base.Ns mainGlobals mg → FnOk l.prog w K mg base (L2.CX l.prog w) k fa fd [p] (spLaw K) := by
  obtain ⟨fd, h1, h2⟩ := law_end hfa hb R G
  exact ⟨fd, h1, fun base a b => (h2 base a b).imp (law_imp hl)⟩
end MM
set_option maxRecDepth 100000
set_option maxHeartbeats 2000000
namespace MM
open PySem PySem.Spec PyProof.Rows L2
variable [TB : Tabl]
/-! ### objects with slots -/
/-- a class of the text, its slots in order -/
structure ClR (K : PySem.W.Frag) (mg : Str → Option Value) (c : Str) (sl : List Str) : Prop where
  ex : ∃ C, mg c = some (.ref C) ∧ SlX.SCls K C ∧ (∀ i f, sl[i]? = some f → ∃ p, SlX.Slot1 K C f p i) ∧ PySem.W.makesIn K C = true ∧ PySem.W.keepIn K (.ref C) = true
def okF : Option D → Option D
  | some .unset => none
  | o => o
def fAttr (c : Str) (i : Nat) : F1 := fun S x => match deref S x with
  | some (.obj c' fs) => if c' = c then okF fs[i]? else none
  | _ => none
def putD (i : Nat) (d : D) (fs : List D) : List D := (fs ++ List.replicate (i + 1 - fs.length) D.unset).set i d
def sAttr (c : Str) (i : Nat) (v o : M) : MS := fun e S => (v e S).bind fun x => (o e x.2).bind fun y => (locD y.1).bind fun n => match y.2[n]? with
  | some (.obj c' fs) => if c' = c then some (.nx, e, y.2.set n (.obj c (putD i x.1 fs))) else none
  | _ => none
section
variable {K : PySem.W.Frag} {mg : Str → Option Value}
theorem Rep.objAt {H : Hp} {W : Wd} {S : Store} {v : V} {d : D} {c : Str} {fs : List D} (r : Rep K mg H W v d) (s : StoreOk K mg H W S) (h : deref S d = some (.obj c fs)) :
    ∃ a C dx os, v = .ref a ∧ mg c = some (.ref C) ∧ SlX.Slt H a C dx os ∧ Reps K mg H W (os.map o2v) fs := by
  cases r with
  | obj f f2 hc h1 h2 r1 => cases h; exact ⟨_, _, _, _, rfl, hc, .inr ⟨h1, h2⟩, r1⟩
  | obj0 f hc h1 => cases h; exact ⟨_, _, _, [], rfl, hc, .inl ⟨h1, rfl⟩, .nil⟩
  | loc h1 =>
    have h : S[_]? = some (D.obj c fs) := h
    cases s.at_ _ _ _ h1 h with
    | obj f2 hc ne h2 h3 r1 => exact ⟨_, _, _, _, rfl, hc, .inr ⟨h2, h3⟩, r1⟩
    | obj0 hc ne hw h2 h3 => exact ⟨_, _, _, [], rfl, hc, .inl ⟨h2, rfl⟩, .nil⟩
  | _ => cases h
theorem Reps.slot {H : Hp} {W : Wd} : ∀ {os : List (Option V)} {fs : List D} {i : Nat} {d : D}, Reps K mg H W (os.map o2v) fs → okF fs[i]? = some d → ∃ v, os[i]? = some (some v) ∧ Rep K mg H W v d
  | [], _, i, d, .nil, h => by simp [okF] at h
  | o :: os, _, 0, d, .cons (d := d1) r _, h => by
    have h : okF (some d1) = some d := by simpa using h
    cases o with
    | none =>
      cases r
      cases h
    | some v =>
      have e : d1 = d := by
        unfold okF at h
        split at h
        · cases h
        · exact Option.some.inj h
      subst e
      exact ⟨v, rfl, r⟩
  | o :: os, _, i + 1, d, .cons _ t, h => by
    obtain ⟨v, h1, h2⟩ := Reps.slot (i := i) (d := d) t (by simpa using h)
    exact ⟨v, by simpa using h1, h2⟩
theorem Reps.unset {H : Hp} {W : Wd} : ∀ n : Nat, Reps K mg H W ((List.replicate n (none : Option V)).map o2v) (List.replicate n .unset)
  | 0 => .nil
  | n + 1 => .cons .unset (Reps.unset n)
theorem Reps.put {H : Hp} {W : Wd} {os : List (Option V)} {fs : List D} {v : V} {d : D} (r : Reps K mg H W (os.map o2v) fs) (i : Nat) (rv : Rep K mg H W v d) : Reps K mg H W ((SlX.putS i v os).map o2v) (putD i d fs) := by
  unfold SlX.putS putD
  have l := r.length
  rw [List.length_map] at l
  rw [List.map_set, List.map_append, l]
  exact Reps.set rv i (r.append (Reps.unset _))
theorem slO_code {a C dx c : Addr} {q : Str} {vs : List (Option V)} : SlX.SlO a C dx vs ≠ LamX.CodeO c q := fun z => by
  unfold SlX.SlO LamX.CodeO at z
  injection z with z
  let o : Obj := ⟨.none, none, .fields #[.none, .str q 0], #[]⟩
  let h : Heap := { objs := Array.replicate (c + 1) o }
  have hg : h.get? c = some o := by
    show (match (Array.replicate (c + 1) o)[c]? with | some ⟨_, _, .freed, _⟩ => none | x => x) = _
    rw [Array.getElem?_replicate, if_pos (Nat.lt_succ_self c)]
  have h1 := congrFun z h
  have h2 : ∃ (oc : Obj) (vs : Array Value) (t : Tok), h.get? c = some oc ∧ oc.data = .fields vs ∧ vs[1]? = some (.str q t) := ⟨o, _, 0, hg, rfl, rfl⟩
  rw [← h1] at h2
  obtain ⟨sl, h3, _⟩ := h2
  have h4 : ∀ u, h.get? a = some u → u = o := fun u e => by
    have e : (match (Array.replicate (c + 1) o)[a]? with | some ⟨_, _, .freed, _⟩ => none | x => x) = some u := e
    rw [Array.getElem?_replicate] at e
    by_cases hac : a < c + 1
    · rw [if_pos hac] at e; exact (Option.some.inj e).symm
    · rw [if_neg hac] at e; cases e
  have h5 := congrArg Obj.data (h4 _ h3)
  unfold PySem.W.instObj at h5
  cases h5
/-- the instance at the cell n is stored into -/
theorem StoreOk.setO {H : Hp} {W : Wd} {S : Store} {n i : Nat} {a : Addr} {c : Str} {fs : List D} {v : V} {d : D} (s : StoreOk K mg H W S) (hn : W.r[n]? = some a) (h : S[n]? = some (.obj c fs)) (rv : Rep K mg H W v d) :
    ∃ C dx os, mg c = some (.ref C) ∧ SlX.Slt H a C dx os ∧ Step W H W (SlX.slH H a C dx (SlX.putS i v os)) ∧ StoreOk K mg (SlX.slH H a C dx (SlX.putS i v os)) W (S.set n (.obj c (putD i d fs))) := by
  have har : a ∈ W.r := List.mem_of_getElem? hn
  have hh := s.at_ n a _ hn h
  obtain ⟨C, dx, os, hc, hs, r, ne, fz, hd⟩ : ∃ C dx os, mg c = some (.ref C) ∧ SlX.Slt H a C dx os ∧ Reps K mg H W (os.map o2v) fs ∧ dx ≠ a ∧ Fz W dx ∧ (H dx = some (.own a) ∨ H dx = some (.xd [])) := by
    cases hh with
    | obj f2 hc ne h2 h3 r1 => exact ⟨_, _, _, hc, .inr ⟨h2, h3⟩, r1, ne, f2, .inr h3⟩
    | @obj0 C dx _ hc ne hw h2 h3 =>
      refine ⟨_, _, [], hc, .inl ⟨h2, rfl⟩, .nil, ne, ⟨fun z => ?_, hw⟩, .inl h3⟩
      obtain ⟨m, hm, e⟩ := List.mem_iff_getElem.mp z
      have h4 : m < S.length := by rw [s.len]; exact hm
      have e2 : W.r[m]? = some dx := by rw [List.getElem?_eq_getElem hm, e]
      have h5 := s.at_ m dx _ e2 (List.getElem?_eq_getElem h4)
      generalize S[m] = dd at h5
      cases h5 with
      | lst q _ => rw [h3] at q; cases q
      | dicK q _ _ => rw [h3] at q; cases q
      | dicT q _ _ => rw [h3] at q; cases q
      | obj _ _ _ q _ _ => rw [h3] at q; exact absurd (Option.some.inj q).symm slO_own
      | obj0 _ _ _ q _ => rw [h3] at q; cases q
  have ha : ∃ u, H a = some u ∧ (∀ xs, u ≠ .tup xs) ∧ (∀ o x, u ≠ .frz o x) ∧ (∀ y, u ≠ .own y) ∧ u ≠ .xd [] ∧ (∀ ps, u ≠ .tbl ps) ∧ ∀ c q, u ≠ LamX.CodeO c q := by
    rcases hs with ⟨q, _⟩ | ⟨q, _⟩
    · exact ⟨_, q, fun _ z => (nomatch z), fun _ _ z => (nomatch z), fun _ z => (nomatch z), (fun z => (nomatch z)), (fun _ z => (nomatch z)), fun _ _ z => (by unfold LamX.CodeO at z; cases z)⟩
    · exact ⟨_, q, fun _ z => (by unfold SlX.SlO at z; cases z), fun _ _ z => (by unfold SlX.SlO at z; cases z), fun _ z => (by unfold SlX.SlO at z; cases z), (fun z => (by unfold SlX.SlO at z; cases z)), (fun _ => slO_tbl), fun _ _ => slO_code⟩
  obtain ⟨ua, ha, a1, a2, a3, a4, a5, a6⟩ := ha
  have new : ∀ b, b ≠ a → b ≠ dx → SlX.slH H a C dx (SlX.putS i v os) b = H b := fun b h1 h2 => SlX.slH_ne h1 h2
  have atA : SlX.slH H a C dx (SlX.putS i v os) a = some (SlX.SlO a C dx (SlX.putS i v os)) := by unfold SlX.slH; rw [upd_same]
  have atD : SlX.slH H a C dx (SlX.putS i v os) dx = some (.xd []) := by unfold SlX.slH; rw [upd_ne ne, upd_same]
  have st : Step W H W (SlX.slH H a C dx (SlX.putS i v os)) := by
    refine ⟨rfl, ⟨[], by simp, by simp⟩, fun b o e => ?_, fun b o e nb _ no => ?_, fun b ws e => ?_, fun b o u e => ?_⟩
    · by_cases z : b = a
      · exact ⟨_, by rw [z]; exact atA⟩
      · by_cases z2 : b = dx
        · exact ⟨_, by rw [z2]; exact atD⟩
        · exact ⟨o, by rw [new b z z2]; exact e⟩
    · have z : b ≠ a := fun z => nb (by rw [z]; exact har)
      by_cases z2 : b = dx
      · subst z2
        rcases hd with q | q
        · rw [e] at q
          exact absurd har (no a (Option.some.inj q)).1
        · rw [atD, ← q, e]
      · rw [new b z z2]; exact e
    · rw [new b (fun z => by rw [z, ha] at e; exact a1 _ (Option.some.inj e)) fun z => by rw [z] at e; rcases hd with q | q <;> (rw [q] at e; cases e)]; exact e
    · rw [new b (fun z => by rw [z, ha] at e; exact a2 _ _ (Option.some.inj e)) fun z => by rw [z] at e; rcases hd with q | q <;> (rw [q] at e; cases e)]; exact e
  refine ⟨C, dx, os, hc, hs, st, by rw [List.length_set]; exact s.len, s.nd, s.ap, fun b hb => st.th b _ (s.xt b hb).choose_spec, fun m b e h1 h2 => ?_, s.tb.put ha a5 a6 fun b o nb e no => ?_⟩
  rotate_left
  · by_cases z : b = dx
    · subst z
      rcases hd with q | q
      · rw [e] at q; exact absurd (Option.some.inj q) (no _)
      · rw [atD, ← q, e]
    · rw [new b nb z]; exact e
  by_cases em : m = n
  · subst em
    rw [hn] at h1
    cases h1
    have hl : m < S.length := by rw [s.len]; exact (List.getElem?_eq_some_iff.mp hn).1
    rw [List.getElem?_set_self hl] at h2
    cases h2
    exact .obj fz hc ne atA atD ((Reps.put r i rv).mono st)
  · have nb : b ≠ a := fun z => by
      subst z
      obtain ⟨l1, e1⟩ := List.getElem?_eq_some_iff.mp h1
      obtain ⟨l2, e2⟩ := List.getElem?_eq_some_iff.mp hn
      exact em ((List.getElem_inj s.nd).mp (e1.trans e2.symm))
    rw [List.getElem?_set_ne (fun z => em z.symm)] at h2
    have nd : b ≠ dx := fun z => fz.1 (z ▸ List.mem_of_getElem? h1)
    refine (s.at_ m b e h1 h2).keep st (fun o q => by rw [new b nb nd]; exact q) fun d2 q => ?_
    by_cases z : d2 = dx
    · subst z
      rcases hd with w | w
      · rw [w] at q
        cases q
        exact absurd rfl nb
      · rw [w] at q
        cases q
    · rw [new d2 (fun w => by rw [w, ha] at q; exact a3 _ (Option.some.inj q)) z]; exact q
end
section
variable {X : Cx} {e o value : Expr} {f : Str} {pos pos' : Pos} {m mo mv : M} {c : Str} {sl : List Str}
theorem se_attr (R : ClR X.K X.mg c sl) (i : Nat) (he : SE X e m) (hi : sl[i]? = some f := by rfl) (hb : attributeBase e f X.env (eval e X.env) = eval e X.env := by rfl) : SE X (.Attribute e f pos) (m1 (fAttr c i) m) :=
  pe_imp (SlX.pe_sl he hb) fun σ H Q ⟨W, en, S, d, S', hE, hS, hm, q⟩ => by
    obtain ⟨C, hC, hk, hsl, _⟩ := R.ex
    obtain ⟨p, hp⟩ := hsl i f hi
    obtain ⟨d1, h1, h2⟩ := m1_eq hm
    refine ⟨W, en, S, d1, S', hE, hS, h1, fun v W' H' st r s => ?_⟩
    unfold fAttr at h2
    split at h2
    · rename_i c' fs hf
      split at h2
      · rename_i hc
        subst hc
        obtain ⟨a, C', dx, os, rfl, hc', hs, rs⟩ := r.objAt s hf
        rw [hC] at hc'
        cases hc'
        obtain ⟨y, e1, e2⟩ := rs.slot h2
        exact ⟨a, C, dx, p, os, i, y, rfl, hs, hk, hp, e1, q y W' H' st e2 s⟩
      · cases h2
    · cases h2
theorem s1_attr (R : ClR X.K X.mg c sl) (i : Nat) (hv : SE X value mv) (ho : SE X o mo) (hi : sl[i]? = some f := by rfl) (hs : swapsWith value (some (.Attribute o f pos')) pos.line X.env = pure false := by rfl) :
    S1 X (.Assign [.Attribute o f pos'] value pos) (sAttr c i mv mo) :=
  ps_imp (SlX.ps_sl ho hv hs) fun E σ H ⟨W, en, S, fl, e', S', hE, hS, hm, q⟩ => by
    obtain ⟨C, hC, hk, hsl, _⟩ := R.ex
    obtain ⟨p, hp⟩ := hsl i f hi
    unfold sAttr at hm
    obtain ⟨⟨d1, S1⟩, h1, hm⟩ := Option.bind_eq_some_iff.mp hm
    obtain ⟨⟨d2, S2⟩, h2, hm⟩ := Option.bind_eq_some_iff.mp hm
    obtain ⟨n, e4, hm⟩ := Option.bind_eq_some_iff.mp hm
    dsimp only at h2 e4 hm
    cases locD_some e4
    replace hm : (match S2[n]? with | some (D.obj c' fs) => if c' = c then some (Fl.nx, en, List.set S2 n (D.obj c (putD i d1 fs))) else none | x => none) = some (fl, e', S') := hm
    split at hm
    · rename_i c' fs hf
      split at hm
      · rename_i hc
        subst hc
        cases hm
        refine ⟨W, en, S, d1, S1, hE, hS, h1, fun v1 W1 H1 st1 r1 s1 => ⟨W1, en, S1, _, S2, hE.mono st1, s1, h2, fun v2 W2 H2 st2 r2 s2 => ?_⟩⟩
        have r1 := r1.mono st2
        cases r2 with
        | @loc _ a hn =>
          obtain ⟨C', dx, os, hc', hs', st3, s3⟩ := s2.setO (i := i) hn hf r1
          rw [hC] at hc'
          cases hc'
          have stA := (st1.trans st2).trans st3
          exact ⟨a, C, dx, p, os, i, rfl, hs', hk, hp, q σ W2 _ stA (hE.mono stA) s3⟩
      · cases hm
    · cases hm
end
/-! ### methods -/
structure RawM (K : PySem.W.Frag) (mg : Str → Option Value) (c m q : Str) (st : Stmt) : Prop where
  ex : ∃ C f fd, mg c = some (.ref C) ∧ SlX.SCls K C ∧ Meth K C m f ∧ Fun K m q st f fd
/-- a method of the text, with its mirror -/
structure Dm (P : Program) (w : World) (K : PySem.W.Frag) (mg : Str → Option Value) (base : Heap) (c m q : Str) (st : Stmt) (k : Nat) (ps : List Str) (F : Fn) (ar : Nat) : Prop where
  ex : ∃ C f fd, mg c = some (.ref C) ∧ SlX.SCls K C ∧ Meth K C m f ∧ FnOk P w K mg base (L2.CX P w) k f fd ps (spOf K mg F ar) ∧ Fun K m q st f fd ∧ Binds K fd ps []
section
variable {P : Program} {w : World} {K : PySem.W.Frag} {mg : Str → Option Value} {base : Heap} {c m q : Str} {st : Stmt} {N ps : List Str} {k ar : Nat} {ms : MS}
theorem dm_of (R : RawM K mg c m q st) (hb : ∀ f fd, Fun K m q st f fd → Binds K fd ps []) (S : FnScope N ps (defScope st)) (har : ps.length = ar)
    (hbody : ∀ (f : Addr) (cdv : Value) (A : Around) (outer : List Env) (s : Shared) (H : Hp) (E : XK), Room k (A.deeper (envOfC q (defScope st) s.heap.objs.size f cdv)) → SS (cxOf (L2.CX P w) P w K mg base N q (defScope st) f cdv A outer s H E) (defBody st) ms) :
    Dm P w K mg base c m q st (k + 1) ps (fnM N.length ms) ar := by
  obtain ⟨C, f, fd, hC, hk, hm, F⟩ := R.ex
  exact ⟨C, f, fd, hC, hk, hm, fn_ok F S har (hbody f), F, hb f fd F⟩
theorem dm_none (R : RawM K mg c m q st) (hb : ∀ f fd, Fun K m q st f fd → Binds K fd ps []) (har : ps.length = ar) : Dm P w K mg base c m q st k ps (fun _ _ => none) ar := by
  obtain ⟨C, f, fd, hC, hk, hm, F⟩ := R.ex
  exact ⟨C, f, fd, hC, hk, hm, fn_none har, F, hb f fd F⟩
theorem Dm.mono {F : Fn} {j : Nat} (G : Dm P w K mg base c m q st k ps F ar) (h : k ≤ j) : Dm P w K mg base c m q st j ps F ar := by
  obtain ⟨C, f, fd, hC, hk, hm, g, F, hb⟩ := G.ex
  exact ⟨C, f, fd, hC, hk, hm, g.mono h, F, hb⟩
end
/-- the receiver is an instance of c -/
def mRecv (c : Str) (o : M) : M := fun e S => (o e S).bind fun x => match deref x.2 x.1 with
  | some (.obj c' _) => if c' = c then some x else none
  | _ => none
section
variable {X : Cx} {k ar : Nat} {c m q : Str} {st : Stmt} {ps : List Str} {F : Fn} {o e : Expr} {es : List Expr} {pos apos : Pos} {mo : M} {as : MA} {bx : Bool}
theorem meth_ok {G : M → MA → M} {C : Addr} {σ : L2.St} {H : Hp} {Q : VK} (hC : X.mg c = some (.ref C)) (hG : ∀ a as σ H Q, tE X.K X.mg (G a as) σ H Q → tCall (spOf X.K X.mg F ar) [] E0 (tAs X.K X.mg (aCons a as)) σ H Q)
    (h : tE X.K X.mg (G (mRecv c mo) as) σ H Q) : SlX.tMethSl C (fun vs H Q E => spOf X.K X.mg F ar (vs ++ []) H Q E) E0 (tE X.K X.mg mo) (tAs X.K X.mg as) σ H Q := by
  obtain ⟨W, en, S, ds, S', hE, hS, hm, q⟩ := hG _ _ _ _ _ h
  obtain ⟨⟨d1, S1⟩, h1, hm⟩ := Option.bind_eq_some_iff.mp hm
  obtain ⟨⟨d2, S2⟩, h2, hm⟩ := Option.map_eq_some_iff.mp hm
  cases hm
  dsimp only at h2
  obtain ⟨⟨d3, S3⟩, h3, h4⟩ := Option.bind_eq_some_iff.mp h1
  dsimp only at h4
  split at h4
  · rename_i c' fs hf
    split at h4
    · rename_i hc
      subst hc
      cases h4
      refine ⟨W, en, S, d1, S1, hE, hS, h3, fun v W1 H1 st1 r1 s1 => ?_⟩
      obtain ⟨a, C', dx, os, rfl, hc', hs, rs⟩ := r1.objAt s1 hf
      rw [hC] at hc'
      cases hc'
      refine ⟨a, dx, os, rfl, hs, W1, en, S1, d2, S2, hE.mono st1, s1, h2, fun vs W2 H2 st2 r2 s2 => ?_⟩
      exact q (.ref a :: vs) W2 H2 (st1.trans st2) (.cons (r1.mono st2) r2) s2
    · cases h4
  · cases h4
theorem sd_meth0 (G : Dm X.prog X.w X.K X.mg X.base c m q st k ps F ar) (hr : Room k X.A) (ho : SE X o mo) {pl : Sem Bool} {H0 : M → MA → M} (hG : ∀ a as σ H Q, tE X.K X.mg (H0 a as) σ H Q → tCall (spOf X.K X.mg F ar) [] E0 (tAs X.K X.mg (aCons a as)) σ H Q)
    (ht : eval (.Call (.Attribute o m apos) [] [] pos) X.env = (do
      let ov ← eval o X.env
      standAt apos.atName
      let (f, first) ← holding [ov] (getMethod ov m pl)
      callWith pos f first (backTo pos (starEach [] X.env)) (backToKw pos (keywordEach [] X.env)))) : SE X (.Call (.Attribute o m apos) [] [] pos) (H0 (mRecv c mo) aNil) := by
  obtain ⟨C, f, fd, hC, hk, hm, g, Fu, hb⟩ := G.ex
  refine pe_imp (SlX.pe_methSl0 (pl := pl) ho hk hm (g.raw hb .nil) hr passL ht) fun σ H Q h => ?_
  have h2 := meth_ok hC hG h
  obtain ⟨W, en, S, d, S', hE, hS, hm', q⟩ := h2
  exact ⟨W, en, S, d, S', hE, hS, hm', fun v W' H' st r s => let ⟨a, dx, vs, e1, e2, e3⟩ := q v W' H' st r s; ⟨a, dx, vs, e1, e2, tAs_nil e3⟩⟩
theorem sd_meth (G : Dm X.prog X.w X.K X.mg X.base c m q st k ps F ar) (hr : Room k X.A) (ho : SE X o mo) (ha : SA X (e :: es) as) {pl : Sem Bool} {H0 : M → MA → M} (hG : ∀ a as σ H Q, tE X.K X.mg (H0 a as) σ H Q → tCall (spOf X.K X.mg F ar) [] E0 (tAs X.K X.mg (aCons a as)) σ H Q)
    (ht : eval (.Call (.Attribute o m apos) (e :: es) [] pos) X.env = (do
      let ov ← eval o X.env
      standAt apos.atName
      let (f, first) ← holding [ov] (getMethod ov m pl)
      callWith pos f first (backTo pos (starEach (e :: es) X.env)) (backToKw pos (keywordEach [] X.env))))
    (hst : starEach (e :: es) X.env = (false, eval e X.env) :: starEach es X.env := by rfl) (hpl : (backTo pos (starEach es X.env)).any (·.1) = false := by rfl) : SE X (.Call (.Attribute o m apos) (e :: es) [] pos) (H0 (mRecv c mo) as) := by
  obtain ⟨C, f, fd, hC, hk, hm, g, Fu, hb⟩ := G.ex
  exact pe_imp (SlX.pe_methSl (pl := pl) ho hk hm (g.raw hb .nil) hr passL ha hst hpl ht) fun σ H Q h => meth_ok hC hG h
theorem g_call {a : M} {as : MA} {σ : L2.St} {H : Hp} {Q : VK} (h : tE X.K X.mg (mCall F ar (aCons a as)) σ H Q) : tCall (spOf X.K X.mg F ar) [] E0 (tAs X.K X.mg (aCons a as)) σ H Q := call_ok h
theorem g_callR {a : M} {as : MA} {σ : L2.St} {H : Hp} {Q : VK} (h : tE X.K X.mg (mCallR bx F ar (aCons a as)) σ H Q) : tCall (spOf X.K X.mg F ar) [] E0 (tAs X.K X.mg (aCons a as)) σ H Q := callR_ok h
end
end MM
set_option maxRecDepth 100000
set_option maxHeartbeats 2000000
namespace MM
open PySem PySem.Spec PyProof.Rows L2
variable [TB : Tabl]
/-! ### new instances -/
/-- in a store of its own, frozen at once -/
def mMakeR (c : Str) (F : Fn) (ar : Nat) (as : MA) : M := fun e S => (as e S).bind fun x => if x.1.length + 1 = ar ∧ D.pures x.1 = true then (F (.loc 0 :: x.1) [.obj c []]).bind fun y => match y.1 with
    | .non => (frzD y.2 30 (.loc 0)).map fun r => (r, x.2)
    | _ => none
  else none
/-- as a cell -/
def mMake (c : Str) (F : Fn) (ar : Nat) (as : MA) : M := fun e S => (as e S).bind fun x => if x.1.length + 1 = ar then (F (.loc x.2.length :: x.1) (x.2 ++ [.obj c []])).bind fun y => match y.1 with
    | .non => some (.loc x.2.length, y.2)
    | _ => none
  else none
section
variable {K : PySem.W.Frag} {mg : Str → Option Value}
/-- the heap with a new instance -/
def mkH (H : Hp) (x dx C : Addr) : Hp := upd (upd H dx (.own x)) x (.ins C dx [])
theorem mkH_old {H : Hp} {x dx C b : Addr} {o : HO} (nx : H x = none) (nd : H dx = none) (e : H b = some o) : mkH H x dx C b = some o := by
  unfold mkH
  rw [upd_ne (ne_of_none e nx), upd_ne (ne_of_none e nd)]
  exact e
theorem mkH_x {H : Hp} {x dx C : Addr} : mkH H x dx C x = some (.ins C dx []) := by unfold mkH; rw [upd_same]
theorem mkH_d {H : Hp} {x dx C : Addr} (ne : dx ≠ x) : mkH H x dx C dx = some (.own x) := by unfold mkH; rw [upd_ne ne, upd_same]
theorem mkH_step {H : Hp} {W : Wd} {x dx C : Addr} (nx : H x = none) (nd : H dx = none) (ne : dx ≠ x) : Step W H W (mkH H x dx C) :=
  ⟨rfl, ⟨[], by simp, by simp⟩, fun b o e => ⟨o, mkH_old nx nd e⟩, fun b o e _ _ _ => mkH_old nx nd e, fun b ws e => mkH_old nx nd e, fun b o u e => mkH_old nx nd e⟩
theorem StoreOk.own_nw {H : Hp} {W : Wd} {S : Store} (s : StoreOk K mg H W S) {a y : Addr} (h : a ∈ W.r) : H a ≠ some (.own y) ∧ H a ≠ some (.xd []) := by
  obtain ⟨n, hn, e⟩ := List.mem_iff_getElem.mp h
  have h1 : W.r[n]? = some a := by rw [List.getElem?_eq_getElem hn, e]
  have h2 : n < S.length := by rw [s.len]; exact hn
  have h5 := s.at_ n a _ h1 (List.getElem?_eq_getElem h2)
  generalize S[n] = dd at h5
  cases h5 with
  | lst q _ => rw [q]; simp
  | dicK q _ _ => rw [q]; simp
  | dicT q _ _ => rw [q]; simp
  | obj _ _ _ q _ _ => rw [q]; exact ⟨fun z => slO_own (Option.some.inj z), fun z => SlX.slO_not (Option.some.inj z)⟩
  | obj0 _ _ _ q _ => rw [q]; simp
/-- a callee that saw but the new instance leaves the cells as they were -/
theorem region_new {H H' : Hp} {W W0 : Wd} {S : Store} {x dx C : Addr} {ex : List Addr} (s : StoreOk K mg H W S) (nx : H x = none) (nd : H dx = none) (ne : dx ≠ x) (st : Step ⟨[x], ex⟩ (mkH H x dx C) W0 H') (htb : TbOk H') : Step W H W H' ∧ StoreOk K mg H' W S := by
  have xo : ∀ b o, H b = some o → b ∉ [x] := fun b o e z => by
    have := List.mem_singleton.mp z
    subst this; rw [nx] at e; cases e
  have st2 : Step W H W H' := by
    refine ⟨rfl, ⟨[], by simp, by simp⟩, fun b o e => st.th b o (mkH_old nx nd e), fun b o e nb nt no => st.fr b o (mkH_old nx nd e) (xo b o e) nt fun y ey => ?_, fun b ws e => st.tups b ws (mkH_old nx nd e), fun b o u e => st.frzs b o u (mkH_old nx nd e)⟩
    obtain ⟨_, u, hu⟩ := no y ey
    exact ⟨xo y u hu, u, mkH_old nx nd hu⟩
  refine ⟨st2, s.len, s.nd, s.ap, fun a ha => st2.th a _ (s.xt a ha).choose_spec, fun n a d h1 h2 => ?_, htb⟩
  have har := List.mem_of_getElem? h1
  have hd := s.at_ n a d h1 h2
  obtain ⟨o0, ho0⟩ := hd.tr
  refine hd.keep st2 (fun o e => st.fr a o (mkH_old nx nd e) (xo a o e) (fun ps e2 => ?_) fun y e2 => ?_) fun d2 e => st.fr d2 _ (mkH_old nx nd e) (xo d2 _ e) (fun _ => by simp) fun y e2 => ?_
  · subst e2
    cases hd with
    | lst h r => rw [h] at e; cases e
    | dicK h e2 r => rw [h] at e; cases e
    | dicT h e2 r => rw [h] at e; cases e
    | obj f2 hc n h h3 r => rw [h] at e; exact absurd (Option.some.inj e) slO_tbl
    | obj0 hc n hw h h2 => rw [h] at e; cases e
  · subst e2
    exact absurd e (s.own_nw har).1
  · cases e2
    exact ⟨xo a _ ho0, _, mkH_old nx nd ho0⟩
theorem make_okR {C : Addr} {c : Str} {F : Fn} {ar : Nat} {as : MA} {σ : L2.St} {H : Hp} {Q : VK} (hC : mg c = some (.ref C)) (h : tE K mg (mMakeR c F ar as) σ H Q) : tMake C (spOf K mg F ar) [] E0 (tAs K mg as) σ H Q := by
  obtain ⟨W, en, S, d, S', hE, hS, hm, q⟩ := h
  obtain ⟨⟨ds, S1⟩, h1, hm⟩ := Option.bind_eq_some_iff.mp hm
  dsimp only at hm
  split at hm
  rotate_left
  · cases hm
  rename_i hl
  obtain ⟨⟨d2, S2⟩, h2, hm⟩ := Option.bind_eq_some_iff.mp hm
  dsimp only at hm
  split at hm
  rotate_left
  · cases hm
  obtain ⟨r, h3, hm⟩ := Option.map_eq_some_iff.mp hm
  cases hm
  refine ⟨W, en, S, ds, _, hE, hS, h1, fun vs W1 H1 st1 r1 s1 x dx nx nd ne => ?_⟩
  rw [List.append_nil]
  have hp := hl.2
  have stx : Step ⟨[], W1.r ++ W1.x⟩ H1 ⟨[x], W1.r ++ W1.x⟩ (mkH H1 x dx C) := ⟨rfl, ⟨[x], by simp, by simp [nx]⟩, fun b o e => ⟨o, mkH_old nx nd e⟩, fun b o e _ _ _ => mkH_old nx nd e, fun b ws e => mkH_old nx nd e, fun b o u e => mkH_old nx nd e⟩
  have r2 : Reps K mg (mkH H1 x dx C) ⟨[x], W1.r ++ W1.x⟩ vs ds := (r1.to (W2 := ⟨[], W1.r ++ W1.x⟩) (fun a f => ⟨by simp, fun z => (List.mem_append.mp z).elim f.1 f.2⟩) hp).mono stx
  have na : x ∉ W1.r ++ W1.x := fun z => (List.mem_append.mp z).elim (s1.nw nx) (s1.nx nx)
  have nda : dx ∉ W1.r ++ W1.x := fun z => (List.mem_append.mp z).elim (s1.nw nd) (s1.nx nd)
  have s2 : StoreOk K mg (mkH H1 x dx C) ⟨[x], W1.r ++ W1.x⟩ [.obj c []] := by
    refine ⟨rfl, by simp, fun a ha => by simp at ha; subst ha; exact na, fun a ha => ?_, fun n a d q1 q2 => ?_, s1.tb.ext fun b o e => mkH_old nx nd e⟩
    · obtain ⟨o, e⟩ : ∃ o, H1 a = some o := (List.mem_append.mp ha).elim s1.tr (s1.xt a)
      exact ⟨o, mkH_old nx nd e⟩
    · cases n with
      | zero => simp at q1 q2; subst q1 q2; exact .obj0 hC ne nda mkH_x (mkH_d ne)
      | succ n => simp at q1
  refine ⟨by rw [List.length_cons, r1.length]; exact hl.1, ⟨[x], W1.r ++ W1.x⟩, [.obj c []], .loc 0 :: ds, .non, S2, .cons (.loc rfl) r2, s2, h2, fun v W' H' st r s => ?_⟩
  cases r
  refine ⟨rfl, ?_⟩
  obtain ⟨st3, s3⟩ := region_new s1 nx nd ne st s.tb
  have ex : W'.x = W1.r ++ W1.x := st.x
  have am : W'.r[0]? = some x := st.get (W := ⟨[x], W1.r ++ W1.x⟩) rfl
  have fz : ∀ a, Fz W' a → Fz W1 a := fun a f => ⟨fun z => f.2 (by rw [ex]; exact List.mem_append_left _ z), fun z => f.2 (by rw [ex]; exact List.mem_append_right _ z)⟩
  exact q _ W1 H' (st1.trans st3) (frz_gen fz (fun n a e q1 q2 _ => ⟨s.at_ n a e q1 q2, by
    have := s.ap a (List.mem_of_getElem? q1)
    rw [ex] at this
    exact ⟨fun z => this (List.mem_append_left _ z), fun z => this (List.mem_append_right _ z)⟩⟩) 30 _ (.loc 0) _ (.loc am) h3) s3
theorem make_ok {C : Addr} {c : Str} {F : Fn} {ar : Nat} {as : MA} {σ : L2.St} {H : Hp} {Q : VK} (hC : mg c = some (.ref C)) (h : tE K mg (mMake c F ar as) σ H Q) : tMake C (spOf K mg F ar) [] E0 (tAs K mg as) σ H Q := by
  obtain ⟨W, en, S, d, S', hE, hS, hm, q⟩ := h
  obtain ⟨⟨ds, S1⟩, h1, hm⟩ := Option.bind_eq_some_iff.mp hm
  dsimp only at hm
  split at hm
  rotate_left
  · cases hm
  rename_i hl
  obtain ⟨⟨d2, S2⟩, h2, hm⟩ := Option.bind_eq_some_iff.mp hm
  dsimp only at hm
  split at hm
  rotate_left
  · cases hm
  cases hm
  refine ⟨W, en, S, ds, _, hE, hS, h1, fun vs W1 H1 st1 r1 s1 x dx nx nd ne => ?_⟩
  rw [List.append_nil]
  have stx : Step W1 H1 (W1.own x) (mkH H1 x dx C) := ⟨rfl, ⟨[x], rfl, by simp [nx]⟩, fun b o e => ⟨o, mkH_old nx nd e⟩, fun b o e _ _ _ => mkH_old nx nd e, fun b ws e => mkH_old nx nd e, fun b o u e => mkH_old nx nd e⟩
  have s2 : StoreOk K mg (mkH H1 x dx C) (W1.own x) (S1 ++ [.obj c []]) := by
    have sl : S1.length = W1.r.length := s1.len
    refine ⟨by simp [Wd.own, sl], ?_, fun a ha => ?_, fun a ha => ⟨_, mkH_old nx nd (s1.xt a ha).choose_spec⟩, fun n a e q1 q2 => ?_, s1.tb.ext fun b o e => mkH_old nx nd e⟩
    · show (W1.r ++ [x]).Nodup
      rw [List.nodup_append]
      exact ⟨s1.nd, by simp, fun a ha b hb => by rw [List.mem_singleton.mp hb]; exact fun z => s1.nw nx (z ▸ ha)⟩
    · rcases List.mem_append.mp ha with ha | ha
      · exact s1.ap a ha
      · rw [List.mem_singleton.mp ha]; exact s1.nx nx
    · have q1 : (W1.r ++ [x])[n]? = some a := q1
      by_cases hn : n < W1.r.length
      · rw [List.getElem?_append_left hn] at q1
        rw [List.getElem?_append_left (by omega)] at q2
        exact (s1.at_ n a e q1 q2).keep stx (fun o z => mkH_old nx nd z) fun d2 z => mkH_old nx nd z
      · have hn' : n = W1.r.length := by
          have := (List.getElem?_eq_some_iff.mp q1).1
          simp at this; omega
        subst hn'
        simp at q1
        rw [← sl] at q2
        simp at q2
        subst q1 q2
        exact .obj0 hC ne (fun z => s1.nx nd z) mkH_x (mkH_d ne)
  refine ⟨by rw [List.length_cons, r1.length]; exact hl, W1.own x, _, .loc S1.length :: ds, .non, _, .cons (.loc ?_) (r1.mono stx), s2, h2, fun v W' H' st r s => ?_⟩
  · show (W1.r ++ [x])[S1.length]? = some x
    rw [show S1.length = W1.r.length from s1.len]; simp
  · cases r
    refine ⟨rfl, q _ W' H' ((st1.trans stx).trans st) (.loc (st.get (W := W1.own x) ?_)) s⟩
    show (W1.r ++ [x])[S1.length]? = some x
    rw [show S1.length = W1.r.length from s1.len]; simp
end
/-! C( .. ) -/
section
variable {X : Cx} {k ar : Nat} {c q : Str} {sl : List Str} {st : Stmt} {ps : List Str} {F : Fn} {e : Expr} {es : List Expr} {p pos : Pos} {as : MA}
theorem sd_make (R : ClR X.K X.mg c sl) (G : Dm X.prog X.w X.K X.mg X.base c "__init__" q st k ps F ar) (hr : Room (k + 1) X.A) (ha : SA X (e :: es) as) (hg : Gl X c := by rfl)
    (hdb : (c == ("__debug__" : Str)) = false := by decide) (he : starEach (e :: es) X.env = (false, eval e X.env) :: starEach es X.env := by rfl) (hpl : (backTo pos (starEach es X.env)).any (·.1) = false := by rfl) : 
    SE X (.Call (.Name c p) (e :: es) [] pos) (mMakeR c F ar as) ∧ SE X (.Call (.Name c p) (e :: es) [] pos) (mMake c F ar as) := by
  obtain ⟨C, f, fd, hC, hk, hm, g, Fu, hb⟩ := G.ex
  obtain ⟨C', hC', _, _, h1, h2⟩ := R.ex
  rw [hC] at hC'
  cases hC'
  have M : Mk X.K C f := ⟨h1, hm.at_, hm.fn, h2⟩
  exact ⟨pe_imp (pe_make M g hr hg hC hb .nil passL ha hdb he hpl) fun σ H Q h => make_okR hC h, pe_imp (pe_make M g hr hg hC hb .nil passL ha hdb he hpl) fun σ H Q h => make_ok hC h⟩
theorem sd_make0 (R : ClR X.K X.mg c sl) (G : Dm X.prog X.w X.K X.mg X.base c "__init__" q st k ps F ar) (hr : Room (k + 1) X.A) (hg : Gl X c := by rfl)
    (hdb : (c == ("__debug__" : Str)) = false := by decide) : 
    SE X (.Call (.Name c p) [] [] pos) (mMakeR c F ar aNil) ∧ SE X (.Call (.Name c p) [] [] pos) (mMake c F ar aNil) := by
  obtain ⟨C, f, fd, hC, hk, hm, g, Fu, hb⟩ := G.ex
  obtain ⟨C', hC', _, _, h1, h2⟩ := R.ex
  rw [hC] at hC'
  cases hC'
  have M : Mk X.K C f := ⟨h1, hm.at_, hm.fn, h2⟩
  exact ⟨pe_imp (pe_make0 M g hr hg hC hb .nil passL hdb) fun σ H Q h => tAs_nil (make_okR hC h), pe_imp (pe_make0 M g hr hg hC hb .nil passL hdb) fun σ H Q h => tAs_nil (make_ok hC h)⟩
end
end MM
set_option maxRecDepth 100000
set_option maxHeartbeats 2000000
namespace MM
open PySem PySem.Spec PyProof.Rows L2
variable [TB : Tabl]
/-! ### dicts, their keys ints or texts -/
def keyD : D → Option Key
  | .int i => some (.inl i)
  | .str x => some (.inr x)
  | _ => none
theorem keyD_some {d : D} {k : Key} (h : keyD d = some k) : d = kD k := by
  cases d <;> cases h <;> rfl
def getV (y : D) : List D → List D → Option D
  | k :: ks, v :: vs => if D.beq k y = true then some v else getV y ks vs
  | _, _ => none
def putV (y v : D) : List D → List D → List D
  | k :: ks, w :: vs => (if D.beq k y = true then v else w) :: putV y v ks vs
  | _, _ => []
def hasV (y : D) (ks : List D) : Bool := ks.any fun k => D.beq k y
def dPut (ks vs : List D) (y v : D) : D := if hasV y ks = true then .dic ks (putV y v ks vs) else .dic (ks ++ [y]) (vs ++ [v])
theorem beq_kD (a b : Key) : D.beq (kD a) (kD b) = decide (a = b) := by
  by_cases h : a = b
  · subst h; rw [decide_eq_true rfl]; exact D.beq_refl _
  · rw [decide_eq_false h]
    cases e : D.beq (kD a) (kD b) with
    | false => rfl
    | true =>
      have e := D.beq_eq e
      refine absurd ?_ h
      cases a <;> cases b <;> simp [kD] at e <;> rw [e]
section
variable {K : PySem.W.Frag} {mg : Str → Option Value}
theorem getV_ok {H : Hp} {W : Wd} {k : Key} : ∀ {kvs : List (Key × V)} {vs : List D}, Reps K mg H W (kvs.map (·.2)) vs → (∀ d, getV (kD k) (kvs.map fun p => kD p.1) vs = some d → ∃ v, valV kvs k = some v ∧ Rep K mg H W v d) ∧
    (valV kvs k).isSome = hasV (kD k) (kvs.map fun p => kD p.1)
  | [], _, .nil => ⟨fun d h => (by cases h), rfl⟩
  | p :: kvs, _, .cons r t => by
    obtain ⟨i1, i2⟩ := getV_ok (k := k) t
    unfold hasV at *
    by_cases e : p.1 = k
    · refine ⟨fun d h => ?_, ?_⟩
      · rw [List.map_cons, getV, beq_kD, if_pos (by simpa using e)] at h
        cases h
        exact ⟨p.2, valV_pos e, r⟩
      · rw [valV_pos e, List.map_cons, List.any_cons, beq_kD, decide_eq_true e]; rfl
    · refine ⟨fun d h => ?_, ?_⟩
      · rw [List.map_cons, getV, beq_kD, if_neg (by simpa using e)] at h
        obtain ⟨v, h1, h2⟩ := i1 d h
        exact ⟨v, by rw [valV_neg e]; exact h1, h2⟩
      · rw [valV_neg e, i2, List.map_cons, List.any_cons, beq_kD, decide_eq_false e]; rfl
theorem putV_ok {H : Hp} {W : Wd} {k : Key} {v : V} {d : D} (rv : Rep K mg H W v d) : ∀ {kvs : List (Key × V)} {vs : List D}, Reps K mg H W (kvs.map (·.2)) vs →
    Reps K mg H W ((kvs.map fun kv => if kv.1 = k then (kv.1, v) else kv).map (·.2)) (putV (kD k) d (kvs.map fun p => kD p.1) vs)
  | [], _, .nil => .nil
  | p :: kvs, _, .cons r t => by
    have ih := putV_ok (k := k) rv t
    simp only [List.map_cons, putV, beq_kD]
    by_cases e : p.1 = k
    · rw [if_pos e, if_pos (by simpa using e)]; exact .cons rv ih
    · rw [if_neg e, if_neg (by simpa using e)]; exact .cons r ih
theorem dput_ok {H : Hp} {W : Wd} {k : Key} {v : V} {d : D} {kvs : List (Key × V)} {vs : List D} (rv : Rep K mg H W v d) (r : Reps K mg H W (kvs.map (·.2)) vs) :
    ∃ ks' vs', dPut (kvs.map fun p => kD p.1) vs (kD k) d = .dic ks' vs' ∧ ks' = (putK kvs k v).map (fun p => kD p.1) ∧ Reps K mg H W ((putK kvs k v).map (·.2)) vs' := by
  have hs := (getV_ok (k := k) r).2
  unfold dPut
  by_cases h : hasV (kD k) (kvs.map fun p => kD p.1) = true
  · rw [if_pos h]
    have ha : (kvs.any fun kv => decide (kv.1 = k)) = true := by rw [valV_any, hs]; exact h
    have e : putK kvs k v = kvs.map fun kv => if kv.1 = k then (kv.1, v) else kv := by
      unfold putK; rw [if_pos ha]
    refine ⟨_, _, rfl, ?_, by rw [e]; exact putV_ok rv r⟩
    rw [e, List.map_map]
    refine List.map_congr_left fun p _ => ?_
    simp only [Function.comp]
    split <;> rfl
  · rw [if_neg h]
    have hn : valV kvs k = none := by
      cases e : valV kvs k with
      | none => rfl
      | some x => rw [e] at hs; exact absurd hs.symm h
    rw [putK_new v hn]
    exact ⟨_, _, rfl, by simp, by rw [List.map_append]; exact r.append (.cons rv .nil)⟩
/-- not one of tuples -/
def isK : List D → Bool
  | .unset :: _ => false
  | _ => true
/-- a dict of ints or texts -/
theorem Rep.dicAt {H : Hp} {W : Wd} {S : Store} {v : V} {d : D} {ks vs : List D} (r : Rep K mg H W v d) (s : StoreOk K mg H W S) (h : deref S d = some (.dic ks vs)) (hk : isK ks = true) :
    ∃ a kvs, v = .ref a ∧ H a = some (.dK kvs) ∧ ks = (kvs.map fun p => kD p.1) ∧ Reps K mg H W (kvs.map (·.2)) vs := by
  cases r with
  | dicK f h1 e r1 => cases h; exact ⟨_, _, rfl, h1, e, r1⟩
  | dicT f h1 e r1 => cases h; subst e; cases hk
  | loc h1 =>
    have h : S[_]? = some (D.dic ks vs) := h
    cases s.at_ _ _ _ h1 h with
    | dicK h2 e r1 => exact ⟨_, _, rfl, h2, e, r1⟩
    | dicT h2 e r1 => subst e; cases hk
  | _ => cases h
/-- the dict at the cell n is stored into -/
theorem Step.cellD {H : Hp} {W : Wd} {a : Addr} {vs us : List (Key × V)} (ha : a ∈ W.r) (h : H a = some (.dK vs)) : Step W H W (upd H a (.dK us)) := by
  have ne : ∀ b o, H b = some o → (∀ ws, o ≠ .dK ws) → b ≠ a := fun b o e n z => by subst z; rw [h] at e; cases e; exact n _ rfl
  refine ⟨rfl, ⟨[], by simp, by simp⟩, fun b o e => ?_, fun b o e n _ _ => ?_, fun b ws e => ?_, fun b o u e => ?_⟩
  · by_cases z : b = a
    · subst z; exact ⟨_, upd_same⟩
    · exact ⟨o, by rw [upd_ne z]; exact e⟩
  · rw [upd_ne (fun z => n (by rw [z]; exact ha))]; exact e
  · rw [upd_ne (ne b _ e fun _ => by simp)]; exact e
  · rw [upd_ne (ne b _ e fun _ => by simp)]; exact e
theorem StoreOk.setD {H : Hp} {W : Wd} {S : Store} {n : Nat} {a : Addr} {kvs us : List (Key × V)} {xs : List D} (s : StoreOk K mg H W S) (hn : W.r[n]? = some a) (h : H a = some (.dK kvs)) (r : Reps K mg H W (us.map (·.2)) xs) :
    Step W H W (upd H a (.dK us)) ∧ StoreOk K mg (upd H a (.dK us)) W (S.set n (.dic (us.map fun p => kD p.1) xs)) := by
  have st := Step.cellD (us := us) (List.mem_of_getElem? hn) h
  refine ⟨st, by rw [List.length_set]; exact s.len, s.nd, s.ap, fun b hb => st.th b _ (s.xt b hb).choose_spec, fun m b d h1 h2 => ?_, s.tb.put h (fun _ => by simp) (fun _ _ => by unfold LamX.CodeO; simp) fun b o n e _ => by rw [upd_ne n]; exact e⟩
  by_cases e : m = n
  · subst e
    rw [hn] at h1
    cases h1
    have hl : m < S.length := by rw [s.len]; exact (List.getElem?_eq_some_iff.mp hn).1
    rw [List.getElem?_set_self hl] at h2
    cases h2
    exact .dicK upd_same rfl (r.mono st)
  · have nb : b ≠ a := fun z => by
      subst z
      obtain ⟨l1, e1⟩ := List.getElem?_eq_some_iff.mp h1
      obtain ⟨l2, e2⟩ := List.getElem?_eq_some_iff.mp hn
      exact e ((List.getElem_inj s.nd).mp (e1.trans e2.symm))
    rw [List.getElem?_set_ne (fun z => e z.symm)] at h2
    exact (s.at_ m b d h1 h2).keep st (fun o q => by rw [upd_ne nb]; exact q) fun dx q => by rw [upd_ne (fun z => by subst z; rw [h] at q; cases q)]; exact q
end
def cellD (S : Store) (n : Nat) : Option (List D × List D) := match S[n]? with
  | some (.dic ks vs) => if isK ks = true ∧ ks.length ≤ 4000 then some (ks, vs) else none
  | _ => none
theorem cellD_some {S : Store} {n : Nat} {p : List D × List D} (h : cellD S n = some p) : S[n]? = some (.dic p.1 p.2) ∧ isK p.1 = true ∧ p.1.length ≤ 4000 := by
  unfold cellD at h
  split at h
  · rename_i ks vs e
    split at h
    · rename_i z; cases h; exact ⟨e, z⟩
    · cases h
  · cases h
/-- d[y] = v -/
def sDPutM (v o i : M) : MS := fun e S => (v e S).bind fun x => (o e x.2).bind fun y => (i e y.2).bind fun z => (locD y.1).bind fun n => (keyD z.1).bind fun _ => (cellD z.2 n).map fun p => (.nx, e, z.2.set n (dPut p.1 p.2 z.1 x.1))
def dicOf (S : Store) (d : D) : Option (List D × List D) := match deref S d with
  | some (.dic ks vs) => if isK ks = true then some (ks, vs) else none
  | _ => none
theorem dicOf_some {S : Store} {d : D} {p : List D × List D} (h : dicOf S d = some p) : deref S d = some (.dic p.1 p.2) ∧ isK p.1 = true := by
  unfold dicOf at h
  split at h
  · rename_i ks vs e
    split at h
    · rename_i z; cases h; exact ⟨e, z⟩
    · cases h
  · cases h
def fDGet : F2 := fun S x y => (dicOf S x).bind fun p => (keyD y).bind fun _ => getV y p.1 p.2
def fDIn : F2 := fun S y x => (dicOf S x).bind fun p => (keyD y).bind fun _ => some (.bl (hasV y p.1))
def fDNotIn : F2 := fun S y x => (dicOf S x).bind fun p => (keyD y).bind fun _ => some (.bl (!hasV y p.1))
def fDLen : F1 := fun S x => (dicOf S x).map fun p => .int p.1.length
def fDSorted : F1 := fun S x => (dicOf S x).bind fun p => if p.1.length < 64 then (match p.1.mapM intD with
    | some ns => some (.lst ((sortI ns).map .int))
    | none => (p.1.mapM strD).map fun ss => .lst ((sortS ss).map .str))
  else none
section
variable {X : Cx} {o i a value : Expr} {pos pos' p : Pos} {mo mi ma mv : M}
theorem sc_dict0 : SC X (.Dict [] [] pos) (mC (.dic [] [])) := pe_imp pe_dnewK fun σ H Q ⟨W, en, S, d, S', hE, hS, hm, q⟩ => by
  cases hm
  intro p hp
  exact q p W _ (.laid hp) hp (hS.nw hp) (hS.nx hp) (.dicK upd_same rfl .nil) (hS.laidPush hp)
theorem s1_dput (hu : X.A.units + 1 < cLine) (hv : SE X value mv) (ho : SE X o mo) (hi : SE X i mi) (hs : swapsWith value (some (.Subscript o i pos')) pos.line X.env = pure false := by rfl) : S1 X (.Assign [.Subscript o i pos'] value pos) (sDPutM mv mo mi) :=
  ps_imp (ps_dput hu ho hi hv hs) fun E σ H ⟨W, en, S, f, e', S', hE, hS, hm, q⟩ => by
    unfold sDPutM at hm
    obtain ⟨⟨d1, S1⟩, h1, hm⟩ := Option.bind_eq_some_iff.mp hm
    obtain ⟨⟨d2, S2⟩, h2, hm⟩ := Option.bind_eq_some_iff.mp hm
    obtain ⟨⟨d3, S3⟩, h3, hm⟩ := Option.bind_eq_some_iff.mp hm
    obtain ⟨n, e4, hm⟩ := Option.bind_eq_some_iff.mp hm
    obtain ⟨k, e5, hm⟩ := Option.bind_eq_some_iff.mp hm
    obtain ⟨⟨ks, vs⟩, hx, hm⟩ := Option.map_eq_some_iff.mp hm
    cases hm
    dsimp only at h2 h3 hx e4 e5
    cases locD_some e4
    have e6 := keyD_some e5
    subst e6
    obtain ⟨g1, g2, g3⟩ := cellD_some hx
    refine ⟨W, en, S, d1, S1, hE, hS, h1, fun v1 W1 H1 st1 r1 s1 => ⟨W1, en, S1, _, S2, hE.mono st1, s1, h2, fun v2 W2 H2 st2 r2 s2 => ⟨W2, en, S2, _, S3, hE.mono (st1.trans st2), s2, h3, fun v3 W3 H3 st3 r3 s3 => ?_⟩⟩⟩
    have r2 := r2.mono st3
    have r1 := (r1.mono st2).mono st3
    obtain ⟨a, kvs, ev, ha, ek, rr⟩ := r2.dicAt s3 g1 g2
    subst ev
    cases r2 with
    | @loc _ _ hn =>
      have rk : v3 = kV k := by
        cases k <;> (cases r3; rfl)
      subst rk
      obtain ⟨ks', vs', e7, e8, r7⟩ := dput_ok (k := k) r1 rr
      obtain ⟨st4, s4⟩ := s3.setD hn ha r7
      have stA := ((st1.trans st2).trans st3).trans st4
      rw [← ek, e8] at e7
      refine ⟨a, _, rfl, .k ha ?_, q σ W3 _ stA (hE.mono stA) ?_⟩
      · have : kvs.length = ks.length := by have := congrArg List.length ek; simpa using this.symm
        rw [this]; exact line_big g3
      · dsimp only
        rw [e7]
        exact s4
theorem se_dget (hu : X.A.units + 1 < cLine) (ho : SE X o mo) (hi : SE X i mi) (hs : NoSl i := by exact fun _ _ => rfl) : SE X (.Subscript o i pos) (m2 fDGet mo mi) := pe_imp (pe_dget hu ho hi hs) fun σ H Q ⟨W, en, S, d, S', hE, hS, hm, q⟩ => by
  obtain ⟨d1, S1, d2, h1, h2, h3⟩ := m2_eq hm
  obtain ⟨⟨ks, vs⟩, g1, h3⟩ := Option.bind_eq_some_iff.mp h3
  obtain ⟨k, g2, h3⟩ := Option.bind_eq_some_iff.mp h3
  have e6 := keyD_some g2
  subst e6
  obtain ⟨g3, g4⟩ := dicOf_some g1
  refine ⟨W, en, S, d1, S1, hE, hS, h1, fun v1 W1 H1 st1 r1 s1 => ⟨W1, en, S1, _, S', hE.mono st1, s1, h2, fun v2 W2 H2 st2 r2 s2 => ?_⟩⟩
  obtain ⟨a, kvs, ev, ha, ek, rr⟩ := (r1.mono st2).dicAt s2 g3 g4
  dsimp only at h3 ek rr
  rw [ek] at h3
  obtain ⟨v, y1, y2⟩ := (getV_ok (k := k) rr).1 _ h3
  have rk : v2 = kV k := by cases k <;> (cases r2; rfl)
  subst rk
  exact ⟨a, v, ev, y1 ▸ .k ha, q v W2 H2 (st1.trans st2) y2 s2⟩
theorem in_ok {neg : Bool} {m : M} {f : F2} (hf : ∀ S y x d, f S y x = some d → ∃ p k, dicOf S x = some p ∧ keyD y = some k ∧ d = .bl (if neg then !hasV y p.1 else hasV y p.1)) {σ : L2.St} {H : Hp} {Q : VK} (h : tE X.K X.mg (m2 f mi mo) σ H Q) :
    tE X.K X.mg mi σ H fun y H1 => tE X.K X.mg mo σ H1 fun x H2 => ∃ a ov, x = .ref a ∧ DGet H2 a y ov ∧ Q (.bl (if neg then !ov.isSome else ov.isSome)) H2 := by
  obtain ⟨W, en, S, d, S', hE, hS, hm, q⟩ := h
  obtain ⟨d1, S1, d2, h1, h2, h3⟩ := m2_eq hm
  obtain ⟨⟨ks, vs⟩, k, g1, g2, g5⟩ := hf _ _ _ _ h3
  have e6 := keyD_some g2
  subst e6
  obtain ⟨g3, g4⟩ := dicOf_some g1
  refine ⟨W, en, S, _, S1, hE, hS, h1, fun v1 W1 H1 st1 r1 s1 => ⟨W1, en, S1, _, S', hE.mono st1, s1, h2, fun v2 W2 H2 st2 r2 s2 => ?_⟩⟩
  obtain ⟨a, kvs, ev, ha, ek, rr⟩ := r2.dicAt s2 g3 g4
  have rk : v1 = kV k := by cases k <;> (cases r1; rfl)
  subst rk
  refine ⟨a, _, ev, .k ha, ?_⟩
  rw [(getV_ok (k := k) rr).2, ← ek]
  subst g5
  exact q _ W2 H2 (st1.trans st2) (.bl _) s2
theorem fDIn_at {S : Store} {y x d : D} (h : fDIn S y x = some d) : ∃ p k, dicOf S x = some p ∧ keyD y = some k ∧ d = .bl (if false then !hasV y p.1 else hasV y p.1) := by
  obtain ⟨p, h1, h⟩ := Option.bind_eq_some_iff.mp h
  obtain ⟨k, h2, h⟩ := Option.bind_eq_some_iff.mp h
  cases h
  exact ⟨p, k, h1, h2, rfl⟩
theorem fDNotIn_at {S : Store} {y x d : D} (h : fDNotIn S y x = some d) : ∃ p k, dicOf S x = some p ∧ keyD y = some k ∧ d = .bl (if true then !hasV y p.1 else hasV y p.1) := by
  obtain ⟨p, h1, h⟩ := Option.bind_eq_some_iff.mp h
  obtain ⟨k, h2, h⟩ := Option.bind_eq_some_iff.mp h
  cases h
  exact ⟨p, k, h1, h2, rfl⟩
theorem se_din (hu : X.A.units + 1 < cLine) (hi : SE X i mi) (ho : SE X o mo) (h1 : behindInMarks .In o = false := by rfl) : SE X (.Compare i [.In] [o] pos) (m2 fDIn mi mo) := pe_imp (pe_cmp (pc_din hu hi ho) h1) fun σ H Q h => in_ok (m := mi) (neg := false) (fun _ _ _ _ => fDIn_at) h
theorem se_dnotin (hu : X.A.units + 1 < cLine) (hi : SE X i mi) (ho : SE X o mo) (h1 : behindInMarks .NotIn o = false := by rfl) : SE X (.Compare i [.NotIn] [o] pos) (m2 fDNotIn mi mo) := pe_imp (pe_cmp (pc_dnotin hu hi ho) h1) fun σ H Q h => in_ok (m := mi) (neg := true) (fun _ _ _ _ => fDNotIn_at) h
theorem st_of_tB {e : Expr} {t : TE} {m : M} (h : PT X e (tB t)) (i : ∀ σ H Q, tE X.K X.mg m σ H Q → t σ H Q) : ST X e (tB1 m) := pt_imp h fun σ H Q ⟨W, en, S, d, S', hE, hS, hm, q⟩ => by
  obtain ⟨⟨d1, S1⟩, h1, hm⟩ := Option.bind_eq_some_iff.mp hm
  dsimp only at hm
  split at hm
  · cases hm
    refine i σ H _ ⟨W, en, S, _, _, hE, hS, h1, fun v W' H' st r s => ?_⟩
    cases r
    exact ⟨_, rfl, q W' H' st s⟩
  · cases hm
end
end MM
set_option maxRecDepth 100000
set_option maxHeartbeats 2000000
namespace MM
open PySem PySem.Spec PyProof.Rows L2
variable [TB : Tabl]
/-! ### list(range( .. )), tuple(range( .. )) -/
theorem rgV_rng {K : PySem.W.Frag} {mg : Str → Option Value} {H : Hp} {W : Wd} (a b : Int) : Reps K mg H W (rgV a b) (rngD a (b - a).toNat) := by
  unfold rgV rngD
  generalize List.range (b - a).toNat = l
  induction l with
  | nil => exact .nil
  | cons x l ih => exact .cons (.int _) ih
def mRgL1 (m : M) : M := fun e S => (m e S).bind fun x => match x.1 with
  | .int n => if -4000 ≤ n ∧ n ≤ 4000 then some (.lst (rngD 0 n.toNat), x.2) else none
  | _ => none
def mRgL2 (m m2 : M) : M := fun e S => (m e S).bind fun x => (m2 e x.2).bind fun y => match x.1, y.1 with
  | .int i, .int j => if -1000000 ≤ i ∧ i ≤ 1000000 ∧ -1000000 ≤ j ∧ j ≤ 1000000 ∧ j - i ≤ 4000 then some (.lst (rngD i (j - i).toNat), y.2) else none
  | _, _ => none
section
variable {X : Cx} {a b : Expr} {p p2 q pos : Pos} {ma mb : M}
theorem sc_lrg1 (hc : X.calm = true) (hg2 : Gl X "range") (hm2 : X.mg "range" = none) (hg : Gl X "list") (hm : X.mg "list" = none) (ha : SE X a ma) (na : starEach [a] X.env = (false, eval a X.env) :: starEach [] X.env := by rfl)
    (nb : starEach [.Call (.Name "range" p) [a] [] q] X.env = (false, eval (.Call (.Name "range" p) [a] [] q) X.env) :: starEach [] X.env := by rfl) :
    SC X (.Call (.Name "list" p2) [.Call (.Name "range" p) [a] [] q] [] pos) (mRgL1 ma) := pe_imp (pe_listRg hc hg hm (prg_1 hg2 hm2 ha na) nb) fun σ H Q ⟨W, en, S, d, S', hE, hS, hm, q⟩ => by
  obtain ⟨⟨d1, S1⟩, h1, hm⟩ := Option.bind_eq_some_iff.mp hm
  dsimp only at hm
  split at hm
  · rename_i n
    split at hm
    · rename_i hn
      cases hm
      refine ⟨W, en, S, _, _, hE, hS, h1, fun v W' H' st r s => ?_⟩
      cases r
      refine ⟨n, rfl, ⟨by omega, by omega, by omega, by omega, by omega⟩, new_list s ?_ fun p H3 st3 h3 hx hh ho => q p W' H3 (st.trans st3) (st.free h3) (s.nw h3) hx hh ho⟩
      have := rgV_rng (K := X.K) (mg := X.mg) (H := H') (W := W') 0 n
      rwa [Int.sub_zero] at this
    · cases hm
  · cases hm
theorem sc_lrg2 (hc : X.calm = true) (hg2 : Gl X "range") (hm2 : X.mg "range" = none) (hg : Gl X "list") (hm : X.mg "list" = none) (ha : SE X a ma) (hb : SE X b mb) (na : starEach [a, b] X.env = (false, eval a X.env) :: starEach [b] X.env := by rfl) (na2 : starEach [b] X.env = (false, eval b X.env) :: starEach [] X.env := by rfl)
    (nb : starEach [.Call (.Name "range" p) [a, b] [] q] X.env = (false, eval (.Call (.Name "range" p) [a, b] [] q) X.env) :: starEach [] X.env := by rfl)
    (hp : (backTo q (starEach [b] X.env)).any (·.1) = false := by rfl) : SC X (.Call (.Name "list" p2) [.Call (.Name "range" p) [a, b] [] q] [] pos) (mRgL2 ma mb) := pe_imp (pe_listRg hc hg hm (prg_2 hg2 hm2 ha hb na na2 hp) nb) fun σ H Q ⟨W, en, S, d, S', hE, hS, hm, q⟩ => by
  obtain ⟨⟨d1, S1⟩, h1, hm⟩ := Option.bind_eq_some_iff.mp hm
  obtain ⟨⟨d2, S2⟩, h2, hm⟩ := Option.bind_eq_some_iff.mp hm
  dsimp only at hm h2
  split at hm
  · rename_i i j _
    split at hm
    · rename_i hn
      cases hm
      refine ⟨W, en, S, _, _, hE, hS, h1, fun v W1 H1 st r s => ⟨W1, en, S1, _, _, hE.mono st, s, h2, fun v2 W' H' st2 r2 s2 => ?_⟩⟩
      cases r
      cases r2
      exact ⟨i, j, rfl, rfl, ⟨by omega, by omega, by omega, by omega, by omega⟩, new_list s2 (rgV_rng i j) fun p H3 st3 h3 hx hh ho => q p W' H3 ((st.trans st2).trans st3) (st.free (st2.free h3)) (s2.nw h3) hx hh ho⟩
    · cases hm
  · cases hm
theorem se_trg1 (hc : X.calm = true) (hg2 : Gl X "range") (hm2 : X.mg "range" = none) (hg : Gl X "tuple") (hm : X.mg "tuple" = none) (ha : SE X a ma) (na : starEach [a] X.env = (false, eval a X.env) :: starEach [] X.env := by rfl)
    (nb : starEach [.Call (.Name "range" p) [a] [] q] X.env = (false, eval (.Call (.Name "range" p) [a] [] q) X.env) :: starEach [] X.env := by rfl) :
    SE X (.Call (.Name "tuple" p2) [.Call (.Name "range" p) [a] [] q] [] pos) (m1 fTuple (mRgL1 ma)) := pe_imp (pe_tupRg hc hg hm (prg_1 hg2 hm2 ha na) nb) fun σ H Q ⟨W, en, S, d, S', hE, hS, hm, q⟩ => by
  obtain ⟨d0, hm, hf⟩ := m1_eq hm
  obtain ⟨⟨d1, S1⟩, h1, hm⟩ := Option.bind_eq_some_iff.mp hm
  dsimp only at hm
  split at hm
  · rename_i n
    split at hm
    · rename_i hn
      cases hm
      cases hf
      refine ⟨W, en, S, _, _, hE, hS, h1, fun v W' H' st r s => ?_⟩
      cases r
      refine ⟨n, rfl, ⟨by omega, by omega, by omega, by omega, by omega⟩, new_tup s ?_ fun v' W2 H2 st2 r2 s2 => q v' W2 H2 (st.trans st2) r2 s2⟩
      have := rgV_rng (K := X.K) (mg := X.mg) (H := H') (W := W') 0 n
      rwa [Int.sub_zero] at this
    · cases hm
  · cases hm
end
/-! ### sorted of any data, with any key -/
def insL {α : Type} (le : α → α → Bool) (x : α) : List α → List α
  | [] => [x]
  | y :: ys => if le x y = true then x :: y :: ys else y :: insL le x ys
def isort {α : Type} (le : α → α → Bool) : List α → List α
  | [] => []
  | x :: xs => insL le x (isort le xs)
theorem insL_at {α : Type} {le : α → α → Bool} {x : α} : ∀ {l1 l2 : List α}, (∀ b ∈ l1, (!le x b) = true) → (∀ y ∈ l2, le x y = true) → insL le x (l1 ++ l2) = l1 ++ x :: l2
  | [], [], _, _ => rfl
  | [], y :: l2, _, h => by simp only [List.nil_append, insL]; rw [if_pos (h y (by simp))]
  | b :: l1, l2, h1, h2 => by
    have := h1 b (by simp)
    simp only [List.cons_append, insL]
    rw [if_neg (by simpa using this), insL_at (fun c hc => h1 c (by simp [hc])) h2]
theorem isort_eq {α : Type} {le : α → α → Bool} (T : PySem.W.TotalLe le) : ∀ l : List α, isort le l = l.mergeSort le
  | [] => by simp [isort]
  | x :: l => by
    have t1 : ∀ a b c, le a b = true → le b c = true → le a c = true := fun a b c => T.trans a b c
    have t2 : ∀ a b, (le a b || le b a) = true := fun a b => Bool.or_eq_true_iff.mpr (T.total a b)
    obtain ⟨l1, l2, e1, e2, e3⟩ := List.mergeSort_cons t1 t2 x l
    have p := List.pairwise_mergeSort t1 t2 (x :: l)
    rw [e1] at p
    unfold isort
    rw [isort_eq T l, e2, e1]
    refine insL_at e3 fun y hy => ?_
    exact (List.pairwise_cons.mp (List.pairwise_append.mp p).2.1).1 y hy
abbrev leP {β : Type} (p q : β × PyData) : Bool := PySem.W.dataLe false (fun b : β × PyData => b.2) p q
def okSort (ps : List PyData) : Bool := (ps.all fun p => ps.all fun q => PySem.W.alike p q) && ((ps.all fun p => match p with | .tuple (_ :: _) => true | _ => false) || ps.all fun p => match p with | .none => false | .tuple _ => false | _ => true) && ps.all fun p => decide (p.depth ≤ 60)
theorem okSort_at {ps : List PyData} (h : okSort ps = true) : PySem.W.AllAlike ps ∧ PySem.W.Sortable ps ∧ ∀ p ∈ ps, p.depth ≤ 60 := by
  unfold okSort at h
  simp only [Bool.and_eq_true, Bool.or_eq_true, List.all_eq_true, decide_eq_true_eq] at h
  obtain ⟨⟨h1, h2⟩, h3⟩ := h
  refine ⟨fun d hd d' hd' => h1 d hd d' hd', ?_, h3⟩
  rcases h2 with h2 | h2
  · refine .inl fun d hd => ?_
    have := h2 d hd
    split at this
    · exact ⟨_, _, rfl⟩
    · cases this
  · refine .inr fun d hd => ?_
    have := h2 d hd
    cases d <;> simp_all
def fSortD : F1 := fun S x => (lstOf S x).bind fun xs => if xs.length ≤ 4000 then (xs.mapM (toPy S 60)).bind fun ps => if okSort ps = true then some (.lst ((isort leP (xs.zip ps)).map (·.1))) else none else none
theorem each_vals : ∀ {ps : List (V × PyData)} {us : List Value}, Vals (ps.map (·.1)) us → PySem.W.EachIs (fun (u : Value) (p : V × PyData) => RelV p.1 u) us ps
  | [], _, .nil => .nil
  | p :: ps, _, .cons r t => .cons r (each_vals t)
theorem vals_each : ∀ {ps : List (V × PyData)} {us : List Value}, PySem.W.EachIs (fun (u : Value) (p : V × PyData) => RelV p.1 u) us ps → Vals (ps.map (·.1)) us
  | _, _, .nil => .nil
  | _, _, .cons r t => .cons r (vals_each t)
theorem each_and {α β : Type} {R T : α → β → Prop} : ∀ {as : List α} {bs : List β}, PySem.W.EachIs R as bs → (∀ a b, b ∈ bs → R a b → T a b) → PySem.W.EachIs T as bs
  | _, _, .nil, _ => .nil
  | _, _, .cons r t, h => .cons (h _ _ (by simp) r) (each_and t fun a b hb => h a b (by simp [hb]))
def rSortDt (K : PySem.W.Frag) : List V → Hp → VK → Prop := fun vs H Q => ∃ (a : Addr) (ps : List (V × PyData)), vs = [V.ref a] ∧ SqL K H a (ps.map (·.1)) ∧ (∀ p ∈ ps, Dp K H p.1 p.2) ∧ okSort (ps.map (·.2)) = true ∧ ps.length ≤ 4000 ∧
  ∀ p, H p = none → Q (.ref p) (upd H p (.lst ((ps.mergeSort leP).map (·.1))))
theorem cr_sortDt {X : Cx} (hu : X.A.units + 64 < cLine) : CallR X (.builtin "sorted") (rSortDt X.K) := by
  intro pins s σ H vs us Q I r h
  obtain ⟨a, ps, rfl, hs, hd, hk, hl, q⟩ := h
  obtain ⟨its, rv, hl', _⟩ := I.list hs
  rw [Vals.ref1 r]
  obtain ⟨k1, k2, k3⟩ := okSort_at hk
  have e0 := each_vals rv
  refine PySem.W.sorted_data (enc := fun p : V × PyData => p.2) (R := fun (u : Value) (p : V × PyData) => RelV p.1 u) hl'.isList e0 (each_and e0 fun u p hp rr => Dp.reads I p.2 p.1 u (hd p hp) rr) k1 k2 (Nat.le_of_lt (line_big hl))
    (fun p hp => by have := k3 p.2 (List.mem_map.mpr ⟨p, hp, rfl⟩); omega) fun out h1 h2 => ?_
  obtain ⟨ep, he'⟩ := PyProof.Rows.sortedAll_at s.heap its out.toArray
  have hlen : ((ps.mergeSort leP).map (·.1)).length ≤ sizeLine := by rw [List.length_map, List.length_mergeSort]; exact Nat.le_of_lt (line_big hl)
  exact ⟨.ref _, upd H (s.heap.objs.size + 1) (.lst ((ps.mergeSort leP).map (·.1))), I.laid (t' := s.toks) (fun _ _ => PyProof.Rows.sortedAll_old) (Nat.le_succ _) ⟨hlen, out, ep, vals_each h2, he'⟩, rfl, q _ (I.hok.fresh (Nat.le_succ _))⟩
/-- sorting goes with what is sorted -/
theorem isort_map {α β : Type} (f : α → β) (le : α → α → Bool) (le' : β → β → Bool) (h : ∀ a b, le a b = le' (f a) (f b)) : ∀ l : List α, (isort le l).map f = isort le' (l.map f)
  | [] => rfl
  | x :: l => by
    have key : ∀ m : List α, (insL le x m).map f = insL le' (f x) (m.map f) := fun m => by
      induction m with
      | nil => rfl
      | cons y m ih =>
        simp only [insL, List.map_cons]
        rw [h]
        split
        · rfl
        · rw [List.map_cons, ih]
    simp only [isort, List.map_cons]
    rw [key, isort_map f le le' h l]
theorem leP_total {β : Type} : PySem.W.TotalLe (leP (β := β)) := PySem.W.sortLe_total _ _ _
section
variable {K : PySem.W.Frag} {mg : Str → Option Value}
theorem zip_fst {α β γ : Type} : ∀ (vs : List α) (ds : List β) (ps : List γ), vs.length = ds.length → vs.zip ps = ((vs.zip ds).zip ps).map fun p => (p.1.1, p.2)
  | [], _, ps, _ => by simp
  | v :: vs, [], ps, h => by simp at h
  | v :: vs, d :: ds, [], _ => by simp
  | v :: vs, d :: ds, p :: ps, h => by simp only [List.zip_cons_cons, List.map_cons]; rw [← zip_fst vs ds ps (by simpa using h)]
theorem zip_snd {α β γ : Type} : ∀ (vs : List α) (ds : List β) (ps : List γ), vs.length = ds.length → ds.zip ps = ((vs.zip ds).zip ps).map fun p => (p.1.2, p.2)
  | [], [], ps, _ => by simp
  | [], d :: ds, ps, h => by simp at h
  | v :: vs, [], ps, h => by simp at h
  | v :: vs, d :: ds, [], _ => by simp
  | v :: vs, d :: ds, p :: ps, h => by simp only [List.zip_cons_cons, List.map_cons]; rw [← zip_snd vs ds ps (by simpa using h)]
theorem reps_zip {H : Hp} {W : Wd} : ∀ {vs : List V} {ds : List D}, Reps K mg H W vs ds → ∀ p ∈ vs.zip ds, Rep K mg H W p.1 p.2
  | _, _, .nil, p, h => by simp at h
  | _, _, .cons r t, p, h => by
    rcases List.mem_cons.mp (by simpa using h) with e | h
    · rw [e]; exact r
    · exact reps_zip t p h
theorem reps_of_all {H : Hp} {W : Wd} : ∀ (l : List ((V × D) × PyData)), (∀ p ∈ l, Rep K mg H W p.1.1 p.1.2) → Reps K mg H W (l.map (·.1.1)) (l.map (·.1.2))
  | [], _ => .nil
  | p :: l, h => .cons (h p (by simp)) (reps_of_all l fun q hq => h q (by simp [hq]))
theorem mem_insL {α : Type} {le : α → α → Bool} {x y : α} : ∀ {m : List α}, x ∈ insL le y m → x = y ∨ x ∈ m
  | [], h => by simpa [insL] using h
  | z :: m, h => by
    unfold insL at h
    split at h
    · simpa using h
    · rcases List.mem_cons.mp h with e | h
      · exact .inr (by simp [e])
      · exact (mem_insL h).imp id fun q => by simp [q]
theorem mem_isort {α : Type} {le : α → α → Bool} {x : α} : ∀ {l : List α}, x ∈ isort le l → x ∈ l
  | [], h => h
  | y :: l, h => by
    rcases mem_insL h with e | h
    · simp [e]
    · simp [mem_isort h]
/-- rows of values and rows of data that are sorted alike -/
theorem reps_isort {H : Hp} {W : Wd} {vs : List V} {ds : List D} {ps : List PyData} (r : Reps K mg H W vs ds) : Reps K mg H W ((isort leP (vs.zip ps)).map (·.1)) ((isort leP (ds.zip ps)).map (·.1)) := by
  rw [zip_fst vs ds ps r.length, zip_snd vs ds ps r.length, ← isort_map (fun p : (V × D) × PyData => (p.1.1, p.2)) leP leP (fun _ _ => rfl), ← isort_map (fun p : (V × D) × PyData => (p.1.2, p.2)) leP leP (fun _ _ => rfl), List.map_map, List.map_map]
  refine reps_of_all _ fun p hp => ?_
  exact reps_zip r p.1 (List.of_mem_zip (mem_isort hp)).1
theorem mapM_len {α β : Type} {f : α → Option β} : ∀ {xs : List α} {ys : List β}, xs.mapM f = some ys → xs.length = ys.length
  | [], ys, h => by simp at h; subst h; rfl
  | x :: xs, ys, h => by
    rw [List.mapM_cons] at h
    obtain ⟨p1, h1, h⟩ := Option.bind_eq_some_iff.mp h
    obtain ⟨p2, h2, h⟩ := Option.bind_eq_some_iff.mp h
    cases h
    simp [mapM_len h2]
theorem dps_ok {H : Hp} {W : Wd} {S : Store} (s : StoreOk K mg H W S) {n : Nat} : ∀ {vs : List V} {ds : List D} {ps : List PyData}, Reps K mg H W vs ds → ds.mapM (toPy S n) = some ps → ∀ p ∈ vs.zip ps, Dp K H p.1 p.2
  | _, _, _, .nil, h, p, hp => by simp at hp
  | _, _, ps, .cons r t, h, p, hp => by
    rw [List.mapM_cons] at h
    obtain ⟨p1, h1, h⟩ := Option.bind_eq_some_iff.mp h
    obtain ⟨p2, h2, h⟩ := Option.bind_eq_some_iff.mp h
    cases h
    rcases List.mem_cons.mp (by simpa using hp) with e | hp
    · rw [e]; exact toPy_dp s n _ _ _ r h1
    · exact dps_ok s t h2 p hp
theorem crv_sortD : Crv1 K mg (fun x H Q => rSortDt K [x] H Q) fSortD := by
  intro H W S v d d' Q rv s hf q
  obtain ⟨xs, h1, hf⟩ := Option.bind_eq_some_iff.mp hf
  split at hf
  · rename_i hz
    obtain ⟨ps, h2, hf⟩ := Option.bind_eq_some_iff.mp hf
    split at hf
    · rename_i hk
      cases hf
      obtain ⟨a, vs, rfl, hq, r1⟩ := rv.lstS s h1
      have l1 := r1.length
      have l2 := mapM_len h2
      have lz : (vs.zip ps).map (·.1) = vs := List.map_fst_zip (by omega)
      have lz2 : (vs.zip ps).map (·.2) = ps := List.map_snd_zip (by omega)
      refine ⟨a, vs.zip ps, rfl, by rw [lz]; exact hq, dps_ok s r1 h2, by rw [lz2]; exact hk, by rw [List.length_zip]; omega, fun p hp => ?_⟩
      rw [← isort_eq leP_total]
      exact new_list s (reps_isort r1) q p hp
    · cases hf
  · cases hf
end
section
variable {X : Cx} {a : Expr} {p pos : Pos} {ma : M}
theorem sc_sortD (hu : X.A.units + 64 < cLine) (hg : Gl X "sorted") (hm : X.mg "sorted" = none) (ha : SE X a ma) (he : starEach [a] X.env = (false, eval a X.env) :: starEach [] X.env := by rfl) : SC X (.Call (.Name "sorted" p) [a] [] pos) (m1 fSortD ma) := sc_b1 (cr_sortDt hu) crv_sortD hg hm (by decide +kernel) ha (he := he)
end
end MM
set_option maxRecDepth 100000
set_option maxHeartbeats 2000000
namespace MM
open PySem PySem.Spec PyProof.Rows L2
variable [TB : Tabl]
/-! ### two clauses -/
theorem it_any {J : It} {n : Nat} {G : Hp → Prop} {Y : Nat → Hp → V → Hp → Prop} (w : Walk J n G Y) {Bd : V → Hp → (Hp → Prop) → Prop} {H0 : Hp} {Qd : Hp → Prop} (Pv : Nat → Hp → Prop) (h0 : Pv 0 H0) (hG : ∀ i H, i ≤ n → Pv i H → G H)
    (hs : ∀ i x H H', i < n → Pv i H → Y i H x H' → Bd x H' (Pv (i + 1))) (hd : ∀ H, Pv n H → Qd H) :
    ∃ W : Nat → Nat → Hp → Prop, (∃ m, W 0 m H0) ∧ ∀ i m H, W i m H → (J.stop i H ∧ Qd H) ∨ (J.go i H ∧ ∃ Nx : Hp → Prop, (∀ H', Nx H' → ∃ m', m' < m ∧ W (i + 1) m' H') ∧ ∀ x H', J.yld i H x H' → Bd x H' Nx) := by
  refine ⟨fun i m H => m = n - i ∧ i ≤ n ∧ Pv i H, ⟨n, by simp, Nat.zero_le _, h0⟩, ?_⟩
  rintro i m H ⟨rfl, hi, p⟩
  by_cases hlt : i < n
  · exact .inr ⟨w.goes i H hlt (hG i H hi p), Pv (i + 1), fun H' p' => ⟨n - (i + 1), by omega, rfl, hlt, p'⟩, fun x H' y => hs i x H H' hlt p (w.yields i H x H' hlt (hG i H hi p) y)⟩
  · have e : i = n := by omega
    subst e
    exact .inl ⟨w.stops H (hG i H hi p), hd H p⟩
theorem Mv.trans {W W2 W3 : Wd} {H H2 H3 : Hp} (a : Mv W H W2 H2) (b : Mv W2 H2 W3 H3) : Mv W H W3 H3 :=
  ⟨fun x o h f no => let z := a.fz x o h f no; b.fz x o z.1 z.2 no, fun x vs h => b.tups x vs (a.tups x vs h), fun x o u h => b.frzs x o u (a.frzs x o u h), fun n x h => b.get n x (a.get n x h)⟩
theorem Mv.go {W W2 W3 : Wd} {H H2 H3 : Hp} (a : Mv W H W2 H2) (b : Step W2 H2 W3 H3) : Mv W H W3 H3 := a.trans b.mv
/-- the inner loop: what is there grows -/
def loopN (I : Its) (e0 : MEnv) (p : PTg) (tt : MT) (me : M) : List D → Store → List D → Option (List D × Store)
  | [], S, acc => if still S I = true then some (acc, S) else none
  | x :: xs, S, acc => if still S I = true then (p x e0).bind fun e1 => (tt e1 S).bind fun b => if b.1 = true then (me e1 b.2).bind fun y => if acc.length ≤ 16000 then loopN I e0 p tt me xs y.2 (acc ++ [y.1]) else none else loopN I e0 p tt me xs b.2 acc else none
/-- the outer loop -/
def loopO (I : Its) (e0 : MEnv) (p : PTg) (tt : MT) (inn : MEnv → Store → List D → Option (List D × Store)) : List D → Store → List D → Option (List D × Store)
  | [], S, acc => if still S I = true then some (acc, S) else none
  | x :: xs, S, acc => if still S I = true then (p x e0).bind fun e1 => (tt e1 S).bind fun b => if b.1 = true then (inn e1 b.2 acc).bind fun r => loopO I e0 p tt inn xs r.2 r.1 else loopO I e0 p tt inn xs b.2 acc else none
def innC (mi : MI) (vs : List Nat) (p : PTg) (tt : MT) (me : M) (e : MEnv) (S : Store) (acc : List D) : Option (List D × Store) := (mi e S).bind fun x => loopN x.1 (wipeE e vs) p tt me x.1.items x.2 acc
def mComp2 (mi : MI) (vs : List Nat) (p : PTg) (tt : MT) (mi1 : MI) (vs1 : List Nat) (p1 : PTg) (tt1 : MT) (me : M) : M := fun e S => (mi e S).bind fun x => (loopO x.1 (wipeE e vs) p tt (innC mi1 vs1 p1 tt1 me) x.1.items x.2 []).map fun r => (.lst r.1, r.2)
theorem loopN_still {I : Its} {e0 : MEnv} {p : PTg} {tt : MT} {me : M} {l acc : List D} {S : Store} {r : List D × Store} (h : loopN I e0 p tt me l S acc = some r) : still S I = true := by
  cases l with
  | nil => unfold loopN at h; split at h <;> first | assumption | cases h
  | cons x xs => unfold loopN at h; split at h <;> first | assumption | cases h
theorem loopO_still {I : Its} {e0 : MEnv} {p : PTg} {tt : MT} {inn : MEnv → Store → List D → Option (List D × Store)} {l acc : List D} {S : Store} {r : List D × Store} (h : loopO I e0 p tt inn l S acc = some r) : still S I = true := by
  cases l with
  | nil => unfold loopO at h; split at h <;> first | assumption | cases h
  | cons x xs => unfold loopO at h; split at h <;> first | assumption | cases h
section
variable {K : PySem.W.Frag} {mg : Str → Option Value}
/-- the state of a comprehension: the list at L holds acc, nothing else sees it -/
structure CSt (K : PySem.W.Frag) (mg : Str → Option Value) (W1 : Wd) (H1 : Hp) (L : Addr) (H2 : Hp) (W2 : Wd) (S2 : Store) (acc : List D) : Prop where
  st : Step W1 H1 W2 H2
  nr : L ∉ W2.r
  ls : ∃ accV, H2 L = some (.lst accV) ∧ Reps K mg H2 (W2.push L) accV acc
  so : StoreOk K mg H2 (W2.push L) S2
theorem CSt.go {W1 W2 W5 : Wd} {H1 H2 H5 : Hp} {L : Addr} {S2 S5 : Store} {acc : List D} (hD : H1 L = none) (c : CSt K mg W1 H1 L H2 W2 S2 acc) (st5 : Step (W2.push L) H2 W5 H5) (s5 : StoreOk K mg H5 W5 S5) :
    CSt K mg W1 H1 L H5 ⟨W5.r, W2.x⟩ S5 acc ∧ W5 = (⟨W5.r, W2.x⟩ : Wd).push L := by
  obtain ⟨accV, hd, rr⟩ := c.ls
  obtain ⟨u1, u2⟩ := st5.unpush
  refine ⟨⟨c.st.trans u1, fun z => (st5.new z).elim c.nr (fun z => by rw [hd] at z; cases z), ⟨accV, st5.fr L _ hd c.nr (fun _ => by simp) fun _ => by simp, ?_⟩, ?_⟩, u2⟩
  · rw [← u2]; exact rr.mono st5
  · rw [← u2]; exact s5
theorem CSt.add {W1 W2 : Wd} {H1 H2 : Hp} {L : Addr} {S2 : Store} {acc : List D} {v : V} {d : D} (hD : H1 L = none) (c : CSt K mg W1 H1 L H2 W2 S2 acc) (r : Rep K mg H2 (W2.push L) v d) (hl : acc.length ≤ 16000) :
    ∃ accV, H2 L = some (.lst accV) ∧ accV.length < sizeLine ∧ CSt K mg W1 H1 L (upd H2 L (.lst (accV ++ [v]))) W2 S2 (acc ++ [d]) := by
  obtain ⟨accV, hd, rr⟩ := c.ls
  have hx : L ∈ (W2.push L).x := List.mem_cons_self
  have mv := Mv.grow (vs := accV ++ [v]) hd hx
  refine ⟨accV, hd, by have := rr.length; rw [sizeLine_eq]; omega, c.st.updNew hD, c.nr, ⟨_, upd_same, (rr.append (.cons r .nil)).mv mv⟩, c.so.grow hd hx⟩
variable {mi mi1 : MI} {p p1 : PTg} {tt tt1 : MT} {me : M}
theorem comp2_ok {vs vs1 : List Nat} {σ : L2.St} {H : Hp} {Q : VK} (h : tCr K mg (mComp2 mi vs p tt mi1 vs1 p1 tt1 me) σ H Q) :
    tLc2 (tI K mg mi) (tG K mg p vs) (tTs K mg tt) (tI K mg mi1) (tG K mg p1 vs1) (tTs K mg tt1) (tE K mg me) vs vs1 σ H Q := by
  obtain ⟨W, en, S, d, S', hE, hS, hm, q⟩ := h
  unfold mComp2 at hm
  obtain ⟨⟨I, S1⟩, h1, hm⟩ := Option.bind_eq_some_iff.mp hm
  obtain ⟨⟨out, Sf⟩, h2, hm⟩ := Option.map_eq_some_iff.mp hm
  cases hm
  refine ⟨W, en, S, I, S1, hE, hS, h1, fun J W1 H1 st1 s1 ⟨G, Y, w, hG⟩ => fun L hL => ?_⟩
  refine it_any w (fun i H2 => ∃ W2 S2 acc, CSt K mg W1 H1 L H2 W2 S2 acc ∧ loopO I (wipeE en vs) p tt (innC mi1 vs1 p1 tt1 me) (I.items.drop i) S2 acc = some (out, Sf))
    ⟨W1, S1, [], ⟨.laid hL, s1.nw hL, ⟨[], upd_same, .nil⟩, s1.laidPush hL⟩, h2⟩ (fun i H2 hi ⟨W2, S2, acc, c, hlp⟩ => (hG _ H2 S2 (c.st.mvPush hL) c.so (loopO_still hlp)).1) ?_ ?_
  · intro i x H2 H3 hi ⟨W2, S2, acc, c, hlp⟩ y
    obtain ⟨d, h5, st3, r3, s3⟩ := (hG _ H2 S2 (c.st.mvPush hL) c.so (loopO_still hlp)).2 i x H3 hi y
    rw [drop_get h5] at hlp
    unfold loopO at hlp
    rw [if_pos (by split at hlp <;> first | assumption | cases hlp)] at hlp
    obtain ⟨e3, h6, hlp⟩ := Option.bind_eq_some_iff.mp hlp
    obtain ⟨⟨b, S4⟩, h7, hlp⟩ := Option.bind_eq_some_iff.mp hlp
    have hE1 : EnvOk K mg H3 (W2.push L) σ en := ((hE.mono st1).mv (c.st.mvPush hL)).mono st3
    refine ⟨W2.push L, wipeE en vs, d, e3, hE1.wipe vs, r3, h6, fun σ4 hE4 hw => ⟨by rw [hw, wipe_wipe fun v hv => hv], W2.push L, e3, S2, b, S4, hE4, s3, h7, fun W5 H5 st5 s5 => ?_⟩⟩
    cases b with
    | false =>
      rw [if_neg Bool.false_ne_true] at hlp
      exact iteF ⟨_, S4, acc, (c.go hL (st3.trans st5) s5).1, hlp⟩
    | true =>
      rw [if_pos rfl] at hlp
      obtain ⟨⟨acc6, S6⟩, h8, hlp⟩ := Option.bind_eq_some_iff.mp hlp
      unfold innC at h8
      obtain ⟨⟨I1, S7⟩, h9, h8⟩ := Option.bind_eq_some_iff.mp h8
      have hE5 : EnvOk K mg H5 W5 σ4 e3 := hE4.mono st5
      refine iteT ⟨W5, e3, S4, I1, S7, hE5, s5, h9, fun J1 W7 H7 st7 s7 ⟨G1, Y1, w1, hG1⟩ => ?_⟩
      obtain ⟨c7, e7⟩ := c.go hL ((st3.trans st5).trans st7) s7
      have hE7 := hE5.mono st7
      have nL : H7 L ≠ none := fun z => by obtain ⟨a, ha, _⟩ := c7.ls; rw [ha] at z; cases z
      refine it_any w1 (fun j H8 => ∃ W8 S8 acc8, CSt K mg W1 H1 L H8 W8 S8 acc8 ∧ Mv W7 H7 (W8.push L) H8 ∧ loopN I1 (wipeE e3 vs1) p1 tt1 me (I1.items.drop j) S8 acc8 = some (acc6, S6))
        ⟨_, S7, acc, c7, by rw [← e7]; exact Step.mv .refl, h8⟩ (fun j H8 hj ⟨W8, S8, acc8, c8, mv8, hl8⟩ => (hG1 _ H8 S8 mv8 c8.so (loopN_still hl8)).1) ?_ ?_
      · intro j x8 H8 H9 hj ⟨W8, S8, acc8, c8, mv8, hl8⟩ y8
        obtain ⟨d8, g5, st9, r9, s9⟩ := (hG1 _ H8 S8 mv8 c8.so (loopN_still hl8)).2 j x8 H9 hj y8
        rw [drop_get g5] at hl8
        unfold loopN at hl8
        rw [if_pos (by split at hl8 <;> first | assumption | cases hl8)] at hl8
        obtain ⟨e9, g6, hl8⟩ := Option.bind_eq_some_iff.mp hl8
        obtain ⟨⟨b9, S9⟩, g7, hl8⟩ := Option.bind_eq_some_iff.mp hl8
        have hE8 : EnvOk K mg H9 (W8.push L) σ4 e3 := (hE7.mv mv8).mono st9
        refine ⟨W8.push L, wipeE e3 vs1, d8, e9, hE8.wipe vs1, r9, g6, fun σ9 hE9 hw9 => ⟨by rw [hw9, wipe_wipe fun v hv => hv], W8.push L, e9, S8, b9, S9, hE9, s9, g7, fun W10 H10 st10 s10 => ?_⟩⟩
        cases b9 with
        | false =>
          rw [if_neg Bool.false_ne_true] at hl8
          obtain ⟨c10, e10⟩ := c8.go hL (st9.trans st10) s10
          refine iteF ⟨_, S9, acc8, c10, ?_, hl8⟩
          rw [← e10]
          exact mv8.go (st9.trans st10)
        | true =>
          rw [if_pos rfl] at hl8
          obtain ⟨⟨y11, S11⟩, g8, hl8⟩ := Option.bind_eq_some_iff.mp hl8
          dsimp only at hl8
          split at hl8
          case isFalse => cases hl8
          rename_i hsz
          refine iteT ⟨W10, e9, S9, y11, S11, hE9.mono st10, s10, g8, fun v11 W11 H11 st11 r11 s11 => ?_⟩
          obtain ⟨c11, e11⟩ := c8.go hL ((st9.trans st10).trans st11) s11
          rw [e11] at r11
          obtain ⟨accV, k1, k2, k3⟩ := c11.add hL r11 hsz
          refine ⟨accV, k1, k2, _, S11, _, k3, ?_, hl8⟩
          have hx : L ∈ ((⟨W11.r, W8.x⟩ : Wd).push L).x := List.mem_cons_self
          refine Mv.trans ?_ (Mv.grow (vs := accV ++ [v11]) k1 hx)
          rw [← e11]
          exact mv8.go ((st9.trans st10).trans st11)
      · intro H8 ⟨W8, S8, acc8, c8, mv8, hl8⟩
        rw [List.drop_eq_nil_of_le (Nat.le_refl _)] at hl8
        unfold loopN at hl8
        rw [if_pos (by split at hl8 <;> first | assumption | cases hl8)] at hl8
        cases hl8
        exact ⟨W8, _, _, c8, hlp⟩
  · intro H2 ⟨W2, S2, acc, c, hlp⟩
    rw [List.drop_eq_nil_of_le (Nat.le_refl _)] at hlp
    unfold loopO at hlp
    rw [if_pos (by split at hlp <;> first | assumption | cases hlp)] at hlp
    cases hlp
    obtain ⟨accV, hd, rr⟩ := c.ls
    refine q L W2 H2 (st1.trans c.st) (st1.free hL) c.nr (fun z => ?_) (.lst hd rr) c.so
    have := s1.nx hL
    rw [c.st.x] at z
    exact this z
end
section
variable {X : Cx} {elt tg iter tg1 iter1 : Expr} {ifs ifs1 : List Expr} {scope : Scope} {own : List (Str × Nat)} {vs1 : List Nat} {pos : Pos} {mi mi1 : MI} {p p1 : PTg} {tt tt1 : MT} {me : M}
theorem sc_comp2 (hc : X.calm = true) (hN : X.N.Nodup) (hi : SI X tg iter mi) (ok : BlkOk X.N X.env.scope scope own) (hv : ∀ i ∈ vs1, i ∈ own.map (·.2))
    (hg : ∀ (s : Shared) (H : Hp) (C : Addr) (cl : List (Str × Addr)) (fp : List Addr), SG (X.blk s H scope (compEnvC scope cl C X.env) fp) tg p (own.map (·.2))) (ht : ∀ (s : Shared) (H : Hp) (C : Addr) (cl : List (Str × Addr)) (fp : List Addr), STs (X.blk s H scope (compEnvC scope cl C X.env) fp) ifs tt)
    (hi1 : ∀ (s : Shared) (H : Hp) (C : Addr) (cl : List (Str × Addr)) (fp : List Addr), SI (X.blk s H scope (compEnvC scope cl C X.env) fp) tg1 iter1 mi1)
    (hg1 : ∀ (s : Shared) (H : Hp) (C : Addr) (cl : List (Str × Addr)) (fp : List Addr), SG (X.blk s H scope (compEnvC scope cl C X.env) fp) tg1 p1 vs1) (ht1 : ∀ (s : Shared) (H : Hp) (C : Addr) (cl : List (Str × Addr)) (fp : List Addr), STs (X.blk s H scope (compEnvC scope cl C X.env) fp) ifs1 tt1)
    (he : ∀ (s : Shared) (H : Hp) (C : Addr) (cl : List (Str × Addr)) (fp : List Addr), SE (X.blk s H scope (compEnvC scope cl C X.env) fp) elt me) (hs : ∀ x, foldedSetIterable iter X.env x = pure x := by intro _; rfl) (hs1 : ∀ env x, foldedSetIterable iter1 env x = pure x := by intro _ _; rfl) :
    SC X (.ListComp elt [⟨tg, iter, ifs, 0⟩, ⟨tg1, iter1, ifs1, 0⟩] scope pos) (mComp2 mi (own.map (·.2)) p tt mi1 vs1 p1 tt1 me) := pe_imp (pe_lc2 hc hN hi ok hv hg ht hi1 hg1 ht1 he hs hs1) fun _ _ _ => comp2_ok
/-- name = [..] on one line: the list stays frozen, or becomes a cell -/
theorem s1_comp2 {i : Nat} {y : Str} {py spos : Pos} (hc : X.calm = true) (hN : X.N.Nodup) (hy : X.N[i]? = some y) (hyl : X.env.scope.names.lookup y = some .local) (hi : SI X tg iter mi) (ok : BlkOk X.N X.env.scope scope own) (hv : ∀ i ∈ vs1, i ∈ own.map (·.2))
    (hg : ∀ (s : Shared) (H : Hp) (C : Addr) (cl : List (Str × Addr)) (fp : List Addr), SG (X.blk s H scope (compEnvC scope cl C X.env) fp) tg p (own.map (·.2))) (ht : ∀ (s : Shared) (H : Hp) (C : Addr) (cl : List (Str × Addr)) (fp : List Addr), STs (X.blk s H scope (compEnvC scope cl C X.env) fp) ifs tt)
    (hi1 : ∀ (s : Shared) (H : Hp) (C : Addr) (cl : List (Str × Addr)) (fp : List Addr), SI (X.blk s H scope (compEnvC scope cl C X.env) fp) tg1 iter1 mi1)
    (hg1 : ∀ (s : Shared) (H : Hp) (C : Addr) (cl : List (Str × Addr)) (fp : List Addr), SG (X.blk s H scope (compEnvC scope cl C X.env) fp) tg1 p1 vs1) (ht1 : ∀ (s : Shared) (H : Hp) (C : Addr) (cl : List (Str × Addr)) (fp : List Addr), STs (X.blk s H scope (compEnvC scope cl C X.env) fp) ifs1 tt1)
    (he : ∀ (s : Shared) (H : Hp) (C : Addr) (cl : List (Str × Addr)) (fp : List Addr), SE (X.blk s H scope (compEnvC scope cl C X.env) fp) elt me) (hs : ∀ x, foldedSetIterable iter X.env x = pure x := by intro _; rfl) (hs1 : ∀ env x, foldedSetIterable iter1 env x = pure x := by intro _ _; rfl)
    (hsw : swapsWith (.ListComp elt [⟨tg, iter, ifs, 0⟩, ⟨tg1, iter1, ifs1, 0⟩] scope pos) (some (.Name y py)) spos.line X.env = pure true := by exact sw_true rfl rfl rfl (by decide +kernel)) :
    S1 X (.Assign [.Name y py] (.ListComp elt [⟨tg, iter, ifs, 0⟩, ⟨tg1, iter1, ifs1, 0⟩] scope pos) spos) (sSet i (mComp2 mi (own.map (·.2)) p tt mi1 vs1 p1 tt1 me)) ∧ S1 X (.Assign [.Name y py] (.ListComp elt [⟨tg, iter, ifs, 0⟩, ⟨tg1, iter1, ifs1, 0⟩] scope pos) spos) (sSet i (mNew (mComp2 mi (own.map (·.2)) p tt mi1 vs1 p1 tt1 me))) := by
  have key := ps_setLc2 (wi1 := tI X.K X.mg mi1) (wi := tI X.K X.mg mi) (te := tE X.K X.mg me) (g := tG X.K X.mg p (own.map (·.2))) (tt := tTs X.K X.mg tt) (g1 := tG X.K X.mg p1 vs1) (tt1 := tTs X.K X.mg tt1) (i := i) (y := y) (py := py) (pos := pos) (spos := spos) hc hN hy hyl hsw hi ok hv hg ht hi1 hg1 ht1 he hs hs1
  refine ⟨ps_imp key fun D σ H ⟨W, en, S, f, e', S', hE, hS, hm, q⟩ => ?_, ps_imp key fun D σ H ⟨W, en, S, f, e', S', hE, hS, hm, q⟩ => ?_⟩
  · unfold sSet at hm
    obtain ⟨⟨d1, S1⟩, e1, hm⟩ := Option.map_eq_some_iff.mp hm
    cases hm
    refine comp2_ok ⟨W, en, S, d1, _, hE, hS, e1, fun p W1 H1 st hp np nx hh hs => ?_⟩
    exact q _ W1 H1 st ((hE.mono st).set (hh.frz np nx) i) hs.pop
  · unfold sSet mNew at hm
    obtain ⟨⟨d1, S1⟩, e1, hm⟩ := Option.map_eq_some_iff.mp hm
    obtain ⟨⟨d2, S2⟩, e2, hm2⟩ := Option.bind_eq_some_iff.mp e1
    cases hm2
    cases hm
    refine comp2_ok ⟨W, en, S, d2, S2, hE, hS, e2, fun p W1 H1 st hp np nx hh hs => ?_⟩
    have so := hs.own np nx hh
    have st' : Step W H (W1.own p) H1 := ⟨st.x, by
      obtain ⟨m, e1, e2⟩ := st.r
      refine ⟨m ++ [p], by show W1.r ++ [p] = _; rw [e1, List.append_assoc], fun a ha => ?_⟩
      rcases List.mem_append.mp ha with z | z
      · exact e2 a z
      · rw [List.mem_singleton.mp z]; exact hp, st.th, st.fr, st.tups, st.frzs⟩
    refine q _ (W1.own p) H1 st' ((hE.mono st').set (v := .ref p) (.loc ?_) i) so
    show (W1.r ++ [p])[S2.length]? = some p
    have : S2.length = W1.r.length := hs.len
    rw [this]; simp
end
/-! ### dicts: len, sorted -/
section
variable {K : PySem.W.Frag} {mg : Str → Option Value}
theorem keys_ints : ∀ {kvs : List (Key × V)} {ns : List Int}, (kvs.map fun p => kD p.1).mapM intD = some ns → kvs.map (·.1) = ns.map Sum.inl
  | [], ns, h => by simp at h; subst h; rfl
  | p :: kvs, ns, h => by
    rw [List.map_cons, List.mapM_cons] at h
    obtain ⟨p1, h1, h⟩ := Option.bind_eq_some_iff.mp h
    obtain ⟨p2, h2, h⟩ := Option.bind_eq_some_iff.mp h
    cases h
    rw [List.map_cons, keys_ints h2]
    obtain ⟨k, v⟩ := p
    cases k <;> cases h1
    rfl
theorem keys_strs : ∀ {kvs : List (Key × V)} {ns : List Str}, (kvs.map fun p => kD p.1).mapM strD = some ns → kvs.map (·.1) = ns.map Sum.inr
  | [], ns, h => by simp at h; subst h; rfl
  | p :: kvs, ns, h => by
    rw [List.map_cons, List.mapM_cons] at h
    obtain ⟨p1, h1, h⟩ := Option.bind_eq_some_iff.mp h
    obtain ⟨p2, h2, h⟩ := Option.bind_eq_some_iff.mp h
    cases h
    rw [List.map_cons, keys_strs h2]
    obtain ⟨k, v⟩ := p
    cases k <;> cases h1
    rfl
theorem crv_dsorted : Crv1 K mg (fun x H Q => (∃ (a : Addr) (kvs : List (Key × V)) (ks : List Int), [x] = [.ref a] ∧ Rd H a (.dK kvs) ∧ kvs.map (·.1) = ks.map Sum.inl ∧ ks.length < 64 ∧ ∀ (ys : List Int) (p : Addr), ys.Perm ks → ys.Pairwise (· ≤ ·) → H p = none → Q (.ref p) (upd H p (.lst (ys.map V.int)))) ∨
    ∃ (a : Addr) (kvs : List (Key × V)) (ks : List Str), [x] = [.ref a] ∧ Rd H a (.dK kvs) ∧ kvs.map (·.1) = ks.map Sum.inr ∧ ks.length < 64 ∧ ∀ ys p, ys.Perm ks → sortedS ys = true → H p = none → Q (.ref p) (upd H p (.lst (ys.map V.str)))) fDSorted := by
  intro H W S v d d' Q rv s hf q
  obtain ⟨⟨ks, vs⟩, h1, hf⟩ := Option.bind_eq_some_iff.mp hf
  obtain ⟨g3, g4⟩ := dicOf_some h1
  obtain ⟨a, kvs, rfl, ha, ek, rr⟩ := rv.dicAt s g3 g4
  dsimp only at hf ek
  split at hf
  · rename_i hz
    have hlen : ks.length = kvs.length := by rw [ek]; simp
    split at hf
    · rename_i ns hn
      cases hf
      rw [ek] at hn
      have e := keys_ints hn
      have el := congrArg List.length e
      simp at el
      refine .inl ⟨a, kvs, ns, rfl, .inl ha, e, by omega, fun ys p hp hs hnew => ?_⟩
      rw [sortI_eq hp hs]
      exact new_list s (Reps.ints _) q p hnew
    · obtain ⟨ss, h3, hf⟩ := Option.map_eq_some_iff.mp hf
      subst hf
      rw [ek] at h3
      have e := keys_strs h3
      have el := congrArg List.length e
      simp at el
      refine .inr ⟨a, kvs, ss, rfl, .inl ha, e, by omega, fun ys p hp hs hnew => ?_⟩
      rw [sortS_eq hp (sortedS_pw hs)]
      exact new_list s (Reps.strs _) q p hnew
  · cases hf
theorem cov_dlen : Cov1 K mg (fun x H Q => ∃ a kvs, [x] = [V.ref a] ∧ H a = some (.dK kvs) ∧ Q (.int kvs.length) H) fDLen := .here fun H W S v d d' Q rv s hf q => by
  obtain ⟨⟨ks, vs⟩, h1, hf⟩ := Option.map_eq_some_iff.mp hf
  obtain ⟨g3, g4⟩ := dicOf_some h1
  obtain ⟨a, kvs, rfl, ha, ek, rr⟩ := rv.dicAt s g3 g4
  dsimp only at hf ek
  have hlen : kvs.length = ks.length := by rw [ek]; simp
  subst hf
  exact ⟨a, kvs, rfl, ha, by rw [hlen]; exact q _ (.int _)⟩
end
section
variable {X : Cx} {a : Expr} {p pos : Pos} {ma : M}
theorem sc_dsorted (hc : X.calm = true) (hg : Gl X "sorted") (hm : X.mg "sorted" = none) (ha : SE X a ma) (he : starEach [a] X.env = (false, eval a X.env) :: starEach [] X.env := by rfl) : SC X (.Call (.Name "sorted" p) [a] [] pos) (m1 fDSorted ma) := sc_b1 (CallR.or (call_sortedDI hc) (call_sortedD hc)) crv_dsorted hg hm (by decide +kernel) ha (he := he)
theorem se_dlen (hg : Gl X "len") (hm : X.mg "len" = none) (ha : SE X a ma) (he : starEach [a] X.env = (false, eval a X.env) :: starEach [] X.env := by rfl) : SE X (.Call (.Name "len" p) [a] [] pos) (m1 fDLen ma) := se_b1 call_lenD cov_dlen hg hm (by decide +kernel) ha (he := he)
end
end MM
set_option maxRecDepth 100000
set_option maxHeartbeats 2000000
namespace MM
open PySem PySem.Spec PyProof.Rows L2
variable [TB : Tabl]
theorem _root_.L2.Room.line {k : Nat} {A : Around} (r : Room k A) : A.units + 1 < cLine := by have := r.un; omega
def SlotsOk (K : PySem.W.Frag) (C : Addr) : Nat → List Str → Prop
  | _, [] => True
  | n, f :: fs => (∃ p, SlX.Slot1 K C f p n) ∧ SlotsOk K C (n + 1) fs
theorem SlotsOk.get {K : PySem.W.Frag} {C : Addr} : ∀ {fs : List Str} {n i : Nat} {f : Str}, SlotsOk K C n fs → fs[i]? = some f → ∃ p, SlX.Slot1 K C f p (n + i)
  | [], _, i, f, _, h => by simp at h
  | g :: fs, n, 0, f, x, h => by simp at h; subst h; exact x.1
  | g :: fs, n, i + 1, f, x, h => by
    have := SlotsOk.get (i := i) (f := f) x.2 (by simpa using h)
    rwa [show n + 1 + i = n + (i + 1) by omega] at this
theorem clR_mk {K : PySem.W.Frag} {h : Heap} {mg : Str → Option Value} {c : Str} {C : Addr} {sl : List Str} (X : K.In h) (G : h.Ns mainGlobals mg) (aC : PySem.W.nsIn K mainGlobals c = some (some (.ref C)))
    (cl : SlX.SCls K C) (so : SlotsOk K C 0 sl) (mk : PySem.W.makesIn K C = true) (kc : PySem.W.keepIn K (.ref C) = true) : ClR K mg c sl :=
  ⟨C, PySem.W.mg_of X G aC, cl, fun i f e => by have := so.get e; rwa [Nat.zero_add] at this, mk, kc⟩
theorem rawM_mk {K : PySem.W.Frag} {h : Heap} {mg : Str → Option Value} {c m q : Str} {st : Stmt} {C f : Addr} {od an : Option Addr} {sl : Array (Option Value)} {oc kV dc pm cd ct : Value} (X : K.In h) (G : h.Ns mainGlobals mg)
    (aC : PySem.W.nsIn K mainGlobals c = some (some (.ref C))) (cl : SlX.SCls K C) (a : PySem.W.findIn K (.ref C) m = some (some (.ref f))) (i : PySem.W.isFn K (.ref f) = true)
    (l : K.lookup f = some ⟨oc, od, .func (PySem.W.fnOf m q (defArgs st) (defBody st) (defScope st) .none kV dc pm an cd ct), sl⟩) (cc : PySem.W.codeIn K cd q = true) (k : PySem.W.keepIn K (.ref f) = true) : RawM K mg c m q st :=
  ⟨C, f, _, PySem.W.mg_of X G aC, cl, ⟨a, i, k⟩, fun_mk l cc k⟩
end MM
set_option maxRecDepth 100000
set_option maxHeartbeats 2000000
namespace MM
open PySem PySem.Spec PyProof.Rows L2
variable [TB : Tabl]
/-! ### sorted( .. , key = f): f any function that is understood here -/
section
variable {prog : Program} {w : World} {A : Around} {E : Value → Shared → Prop} {s : Shared} {a kS : Addr} {vs : List Value} {e1 : Nat} {P : PySem.Fin → Shared → Prop} {kz : List PyData}
/-- J i us s: i keys are made, they are us -/
theorem kj_rest {f : Value} {J : Nat → List Value → Shared → Prop} (hJ0 : J 0 [] s) (nk : s.heap.get? kS = some (seqObj "list" #[] 0)) (na : s.heap.get? a = some (seqObj "list" #[] e1)) (hka : kS ≠ a)
    (hlen : kz.length = vs.length) (hZ : vs.length ≤ sizeLine) (hal : PySem.W.AllAlike kz) (hsk : PySem.W.Sortable kz) (hu : ∀ d, d ∈ kz → A.units + d.depth < cLine)
    (stab : ∀ i us s1 g, (∀ b o, b ≠ kS → s1.heap.get? b = some o → g.get? b = some o) → J i us s1 → J i us { s1 with heap := g })
    (turn : ∀ (i : Nat) (v : Value) (us : List Value) (s1 : Shared) (kA : Array Value) (e : Nat), vs[i]? = some v → J i us s1 → s1.heap.get? kS = some (seqObj "list" kA e) → s1.heap.get? a = some (seqObj "list" #[] e1) →
      wpAny (model prog w) A (call f [v]) (fun u s2 => J (i + 1) (us ++ [u]) s2 ∧ s2.heap.get? kS = some (seqObj "list" kA e) ∧ s2.heap.get? a = some (seqObj "list" #[] e1)) (fun _ _ => False) s1)
    (read : ∀ us s1, J vs.length us s1 → us.length = vs.length ∧ PySem.W.EachIs (fun v k => ∃ as, Reads s1.heap v k as) us kz)
    (h : ∀ us s1 h' tk out c, J vs.length us s1 → (∀ b o, b ≠ a → b ≠ kS → s1.heap.get? b = some o → h'.get? b = some o) → h'.get? a = some (seqObj "list" (List.toArray out) c) → PySem.W.KeyedOut false kz vs out → P (.done (.ret .none)) { s1 with heap := h', toks := tk }) :
    wpAny (model prog w) A (PyProof.Rows.ksk_rest a f false vs.toArray e1 (.ref kS)) P E s := by
  unfold PyProof.Rows.ksk_rest
  refine wpAny_bind (wpAny_rule ?_)
  first
    | rw [List.forIn_toArray]
    | (rw [← Array.forIn_toList]; simp only [List.toList_toArray])
    | rw [← Array.forIn_toList]
  refine wpAny_bind (PyProof.Rows.ksk_fold (fun i s' => ∃ us e, J i us s' ∧ us.length = i ∧ s'.heap.get? kS = some (seqObj "list" us.toArray e) ∧ s'.heap.get? a = some (seqObj "list" #[] e1)) vs 0 s ⟨[], 0, hJ0, rfl, nk, na⟩ ?step ?done)
  case step =>
    rintro j x s' hx ⟨us, e, hJ, hl, nk', na'⟩
    simp only [Nat.zero_add] at hJ hl ⊢
    have hj : j < vs.length := (List.getElem?_eq_some_iff.mp hx).1
    refine wpAny_bind (wpAny_attempt (wpAny_mono (turn j x us s' us.toArray e hx hJ nk' na') (fun v s'' he => ?_) fun _ _ hF => hF.elim))
    obtain ⟨hJ2, nk2, na2⟩ := he
    try dsimp only
    have s1 := Heap.SameBut.update s''.heap kS (Obj.mapSeq (·.push v))
    obtain ⟨c2, hc2⟩ : ∃ c2, (s''.heap.update kS (Obj.mapSeq (·.push v))).get? kS = some (seqObj "list" (us.toArray.push v) c2) := ⟨_, get?_update_seq nk2 (·.push v)⟩
    have hz : us.toArray.size ≤ vs.length := by rw [List.size_toArray, hl]; omega
    refine wpAny_bind (listUpdate_at nk2 rfl ?_ (Nat.le_trans hz hZ) (Nat.le_trans (Nat.le_of_eq (Array.size_push ..)) (Nat.succ_le_succ (Nat.le_trans hz hZ))))
    refine wpAny_pure ⟨rfl, us ++ [v], c2, stab _ _ _ _ (fun b o hb e => (s1.2 b hb).trans e) hJ2, by simp [hl], ?_, (s1.2 a hka.symm).trans na2⟩
    rw [hc2]
    simp
  case done =>
    rintro s' ⟨us, e, hJ, hl, nk', na'⟩
    rw [Nat.zero_add] at hJ
    obtain ⟨hl2, hr⟩ := read us s' hJ
    try dsimp only
    refine wpAny_bind (listItems_at nk' rfl ?_)
    let fo : Obj := { seqObj "list" us.toArray e with data := .freed }
    let g : Heap := { s'.heap with objs := s'.heap.objs.setIfInBounds kS fo }
    have sg : ∀ b, b ≠ kS → g.get? b = s'.heap.get? b := fun b hb => by
      show (match (s'.heap.objs.setIfInBounds kS fo)[b]? with | some ⟨_, _, .freed, _⟩ => none | x => x) = _
      rw [Array.getElem?_setIfInBounds, if_neg (Ne.symm hb)]
      rfl
    have gk : g.get? kS = none := by
      show (match (s'.heap.objs.setIfInBounds kS fo)[kS]? with | some ⟨_, _, .freed, _⟩ => none | x => x) = _
      rw [Array.getElem?_setIfInBounds, if_pos rfl, if_pos (Heap.lt_size nk')]
    refine PySem.W.keyH_end (κ := PySem.W.dataKind s'.heap kz) (h₁ := g) (fun b o hb e => ?_) gk nk' na' hka (PySem.W.SortsAt.data (s := s') (by simpa using hr) hal hsk hu) (by simpa using hl2) hZ fun h3 tk3 c k3 n3 => h us s' h3 tk3 _ c hJ (fun b o h1 h2 e => k3 b o h1 ((sg b h2).trans e)) n3 ⟨s'.heap, us, hal, by simp, hr⟩
    by_cases hbk : b = kS
    · rw [hbk, gk] at e; cases e
    · exact (sg b hbk).symm.trans e
theorem kj_tree {f : Value} {n : Nat} {J : Nat → List Value → Shared → Prop} (ho : s.heap.get? a = some (seqObj "list" vs.toArray n)) (hlen : kz.length = vs.length) (hZ : vs.length ≤ sizeLine) (hal : PySem.W.AllAlike kz) (hsk : PySem.W.Sortable kz) (hu : ∀ d, d ∈ kz → A.units + d.depth < cLine)
    (hJ0 : ∀ g, (∀ b o, b ≠ a → s.heap.get? b = some o → g.get? b = some o) → s.heap.objs.size ≤ g.objs.size → J 0 [] { s with heap := g })
    (stab : ∀ i us s1 g, (∀ b o, b ≠ s.heap.objs.size + 1 → s1.heap.get? b = some o → g.get? b = some o) → J i us s1 → J i us { s1 with heap := g })
    (turn : ∀ (i : Nat) (v : Value) (us : List Value) (s1 : Shared) (kA : Array Value) (e e1 : Nat), vs[i]? = some v → J i us s1 → s1.heap.get? (s.heap.objs.size + 1) = some (seqObj "list" kA e) → s1.heap.get? a = some (seqObj "list" #[] e1) →
      wpAny (model prog w) A (call f [v]) (fun u s2 => J (i + 1) (us ++ [u]) s2 ∧ s2.heap.get? (s.heap.objs.size + 1) = some (seqObj "list" kA e) ∧ s2.heap.get? a = some (seqObj "list" #[] e1)) (fun _ _ => False) s1)
    (read : ∀ us s1, J vs.length us s1 → us.length = vs.length ∧ PySem.W.EachIs (fun v k => ∃ as, Reads s1.heap v k as) us kz)
    (h : ∀ us s1 h' tk out c, J vs.length us s1 → (∀ b o, b ≠ a → b ≠ s.heap.objs.size + 1 → s1.heap.get? b = some o → h'.get? b = some o) → h'.get? a = some (seqObj "list" (List.toArray out) c) → PySem.W.KeyedOut false kz vs out → P (.done (.ret .none)) { s1 with heap := h', toks := tk }) :
    wpAny (model prog w) A (PyProof.Rows.ksk_tree a f false) P E s := by
  have ha : a < s.heap.objs.size := Heap.lt_size ho
  obtain ⟨e1, ho1⟩ : ∃ e1, (s.heap.update a (Obj.mapSeq fun _ => (#[] : Array Value))).get? a = some (seqObj "list" #[] e1) := ⟨_, get?_update_seq ho fun _ => #[]⟩
  have hkS : ((s.heap.update a (Obj.mapSeq fun _ => (#[] : Array Value))).push (seqObj "tuple" vs.toArray 0)).objs.size = s.heap.objs.size + 1 := by rw [size_push', Heap.size_update]
  unfold PyProof.Rows.ksk_tree
  refine wpAny_bind (listItems_at ho rfl ?_)
  refine wpAny_bind (listUpdate_at ho rfl ?_ (by rw [List.size_toArray]; exact hZ) (Nat.zero_le _))
  refine wpAny_bind (seqEpoch_at ho1 rfl ?_)
  refine wpAny_bind (wpAny_newTuple ?_ (by show vs.length ≤ _; exact hZ))
  refine wpAny_bind (wpAny_newList ?_ (Nat.zero_le _))
  refine wpAny_holding ?_
  rw [hkS]
  refine kj_rest (J := J) (s := { s with heap := ((s.heap.update a (Obj.mapSeq fun _ => (#[] : Array Value))).push (seqObj "tuple" vs.toArray 0)).push (seqObj "list" #[] 0) }) (kS := s.heap.objs.size + 1)
    (hJ0 _ (fun b o hb q => PySem.W.sortingHeap_old hb q) ?_) ?_ (Heap.get?_push_of_some _ (Heap.get?_push_of_some _ ho1)) (Nat.ne_of_gt (Nat.lt_succ_of_lt ha)) hlen hZ hal hsk hu stab (fun i v us s1 kA e => turn i v us s1 kA e e1) read h
  · rw [size_push', hkS]; omega
  · rw [← hkS]; exact Heap.get?_push_size _ rfl
end
end MM
set_option maxRecDepth 100000
set_option maxHeartbeats 2000000
namespace MM
open PySem PySem.Spec PyProof.Rows L2 LamX NdefX
variable [TB : Tabl]
/-! ### lambdas -/
/-- the function of a lambda: F tells its names, eb is its body -/
def LamO (f : Addr) (F : NF) (eb : Expr) : HO := .ext fun h => ∃ pm ctv, h.get? f = some (PySem.W.kla_obj "<lambda>" F.qual F.params eb F.scope F.cl pm F.c ctv)
section
variable {CX : CXT} {P : Program} {w : World} {K : PySem.W.Frag} {mg : Str → Option Value} {base : Heap} {N ps fr : List Str} {F : NF} {eb : Expr} {f : Addr} {k : Nat} {A : Around} {outer : List Env} {s : Shared} {H : Hp} {E : XK} {us : List Value} {vs : List V} {ws : List (Option V)} {Q : VK} {t : TE}
theorem run_lam (S : NScope N ps fr F.scope) (hb : ∀ (pm ctv : Value) (us : List Value), us.length = ps.length → bindArgs (PySem.W.kla_fn "<lambda>" F.qual F.params eb F.scope F.cl pm (.ref F.c) ctv) ⟨us, []⟩ = pure (ps.zip us))
    (hr : Room (k + 1) A) (e0 : Env0 P w K mg base A outer s H) (hf : H f = some (LamO f F eb)) (hc : H F.c = some (CodeO F.c F.qual)) (C : CellsAt F.cl fr ws s.heap H) (r : Vals vs us) (hl : vs.length = ps.length)
    (hbody : Room k (A.deeper (envF F f s.heap.objs.size)) → PE (ncx CX P w K mg base N F f A outer s H E) eb t) (hq : t (startF N vs ws) H Q) :
    codeAny (model P w) A (.call (.ref f) ⟨us, []⟩) (CR CX outer P w H s Q E) s := by
  have lim : s.heap.NoLimit := e0.mod.nolimit.keeps fun b o e => (e0.bs b o e).1
  obtain ⟨⟨pm, ctv, ho⟩, _, _⟩ := e0.hok f _ hf
  refine PySem.W.kla_callFunE hr.depth ho rfl S.co S.gen rfl (codeO_at e0.hok hc) ?_
  rw [hb pm ctv us (by rw [← r.length]; exact hl)]
  refine wpAny_pure (wpAny_newFunctionEnv S.nocell (fun ⟨n, _⟩ hy => S.par n (List.of_mem_zip hy).1) (fun h₁ hns hsb => ⟨lim.fresh _ hsb, ?_⟩) S.kind)
  show codeAny _ _ (.expr eb (envF F f s.heap.objs.size)) _ _
  have kp : ∀ b o, s.heap.get? b = some o → h₁.get? b = some o := fun b o e => hsb.extBut b o (Nat.ne_of_lt (Heap.lt_size e)) (Heap.get?_push_of_some _ e)
  have I : Inv (ncx CX P w K mg base N F f A outer s H E) [] (startF N vs ws) H { s with heap := h₁, toks := s.toks + (ps.zip us).length } := inv_startN S hr.hd e0 hl r C hns kp
  refine PySem.W.kla_codeExpr (wpAny_mono ((hbody (hr.deeper _)).run [] _ _ H Q I hq) (fun v s' hq => ?_) fun e s' hq => hq)
  obtain ⟨w', H', J', rv, q⟩ := hq
  exact ⟨w', H', J'.os, J'.bare, J'.base, J'.hok, rv, q⟩
end
/-- what a lambda's making does to the heap -/
structure Made (H H' : Hp) : Prop where
  th : ∀ b o, H b = some o → ∃ o', H' b = some o'
  fr : ∀ b o, H b = some o → (∀ ps, o ≠ .tbl ps) → H' b = some o
  tb : TbOk H'
theorem Made.step {H H' : Hp} (m : Made H H') (W : Wd) : Step W H W H' :=
  ⟨rfl, ⟨[], by simp, by simp⟩, m.th, fun b o e _ nt _ => m.fr b o e nt, fun b vs e => m.fr b _ e fun _ => by simp, fun b o u e => m.fr b _ e fun _ => by simp⟩
section
variable {X : Cx} {pins : List (Addr × Obj)} {σ : L2.St} {H : Hp} {s : Shared}
theorem lamO_new {P : Program} {w : World} {H' : Hp} {h : Heap} {f : Addr} {F : NF} {eb : Expr} {pm ctv : Value} (e : h.get? f = some (PySem.W.kla_obj "<lambda>" F.qual F.params eb F.scope F.cl pm F.c ctv)) : ObjOk P w H' h f (LamO f F eb) :=
  ⟨⟨pm, ctv, e⟩, ⟨_, e⟩, fun h1 h2 ⟨pm, ctv, z⟩ st => ⟨pm, ctv, st _ z⟩⟩
theorem lam_make3 {c P : Addr} {params : Arguments} {eb : Expr} {scope : Scope} {pos : Pos} {E : Value → Shared → Prop} {Q : Value → Shared → Prop} (I : Inv X pins σ H s) (B : TabB X.base X.mg c P) (hcode : X.env.code = .ref c)
    (hm : (P, X.env.qual ++ "<lambda>") ∈ TB.T) (hT : TbOk H) (hdef : defaultsOf params X.env = ([], [])) (hfree : ∀ y ∈ scope.names, y.2 = .free → ∃ c, X.env.cells.lookup y.1 = some c)
    (h : ∀ (f c' : Addr) (H1 : Hp) (s' : Shared), Inv X pins σ H1 s' → Made H H1 → H f = none → H1 f = some (LamO f ⟨"<lambda>", X.env.qual ++ "<lambda>", params, [], scope, cloFrom X.env.cells scope.names [], c'⟩ eb) → H1 c' = some (CodeO c' (X.env.qual ++ "<lambda>")) → Q (.ref f) s') :
    wpAny (model X.prog X.w) X.A (eval (.Lambda params eb scope pos) X.env) Q E s := by
  obtain ⟨ps, hP, ht, ha⟩ := hT _ hm
  have huq : ∀ p ∈ TB.T, p.1 = P → p.2 = X.env.qual ++ "<lambda>" := fun p hp e => by
    have nd := TB.nd
    obtain ⟨i, hi, e1⟩ := List.mem_iff_getElem.mp hp
    obtain ⟨j, hj, e2⟩ := List.mem_iff_getElem.mp hm
    have e3 : (TB.T.map (·.1))[i]'(by simpa using hi) = (TB.T.map (·.1))[j]'(by simpa using hj) := by simp [e1, e2, e]
    have e4 := (List.getElem_inj nd).mp e3
    subst e4
    rw [e1] at e2
    rw [e2]
  refine PySem.W.kla_eval hdef ?_
  have bP : s.heap.BuiltinsAt X.mg P := B.bm.keeps I.bk
  have hP' : s.heap.get? P = some { cls := .none, data := .fields ps } := I.hok P _ hP
  cases hc : codeAmong pos ps.toList with
  | none =>
    refine PySem.W.kla_makeFunction (mg := X.mg) (c := c) (P := P) (ps := ps) (closure_ok hfree) I.ok.glob (I.mod.glob.keeps I.bk) hcode (B.code.keeps I.bk) hP' ht hc B.gP bP fun c' ctv h' tk hx hge hlt hrec htb => ?_
    obtain ⟨c2, oc, vs, t, e2, hoc, hd, hv⟩ := hrec
    cases e2
    have hsz : s.heap.objs.size ≤ h'.objs.size := Nat.le_trans hge (Nat.le_of_lt hlt)
    have nC : H c' = none := I.hok.fresh hge
    have I1 := inv_table (t' := tk) (more := #[rawInt pos.line, rawInt pos.col, .ref c']) (h' := h') I hP hx htb hge ⟨oc, vs, t, hoc, hd, hv⟩
    generalize hH1 : upd (upd H P (.tbl (ps ++ #[rawInt pos.line, rawInt pos.col, .ref c']))) c' (CodeO c' (X.env.qual ++ "<lambda>")) = H1 at I1
    have nF : H h'.objs.size = none := I.hok.fresh hsz
    have n1 : h'.objs.size ≠ c' := Nat.ne_of_gt hlt
    have n2 : h'.objs.size ≠ P := Nat.ne_of_gt (Nat.lt_of_lt_of_le (Heap.lt_size hP') hsz)
    have nF1 : H1 h'.objs.size = none := by rw [← hH1, upd_ne n1, upd_ne n2]; exact nF
    have old : ∀ b o, H b = some o → b ≠ P → H1 b = some o := fun b o e n => by rw [← hH1, upd_ne (ne_of_none e nC), upd_ne n]; exact e
    have atP : H1 P = some (.tbl (ps ++ #[rawInt pos.line, rawInt pos.col, .ref c'])) := by rw [← hH1, upd_ne (ne_of_none hP nC), upd_same]
    have atC : H1 c' = some (CodeO c' (X.env.qual ++ "<lambda>")) := by rw [← hH1, upd_same]
    have hE : ∀ b o, H b = some o → (∀ qs, o ≠ .tbl qs) → H1 b = some o := fun b o e n => old b o e fun z => n ps (Option.some.inj (e.symm.trans (by rw [z]; exact hP)))
    have eL : (ps ++ #[rawInt pos.line, rawInt pos.col, .ref c']).toList = ps.toList ++ [rawInt pos.line, rawInt pos.col, .ref c'] := by simp
    have tb1 : TbOk H1 := fun p hp => by
      by_cases hb : p.1 = P
      · rw [huq p hp hb, hb]
        refine ⟨_, atP, by rw [eL]; exact PySem.TriplesOk_snoc _ _ _ _ ht, fun p' cv hcv => ?_⟩
        rw [eL] at hcv
        rcases among_app _ ht hcv with z | z
        · obtain ⟨c0, e1, e2⟩ := ha p' cv z
          exact ⟨c0, e1, hE _ _ e2 codeO_ne⟩
        · exact ⟨c', z, atC⟩
      · obtain ⟨ps', a1, a2, a3⟩ := hT p hp
        refine ⟨ps', old _ _ a1 hb, a2, fun p' cv hcv => ?_⟩
        obtain ⟨c0, e1, e2⟩ := a3 p' cv hcv
        exact ⟨c0, e1, hE _ _ e2 codeO_ne⟩
    let F : NF := ⟨"<lambda>", X.env.qual ++ "<lambda>", params, [], scope, cloFrom X.env.cells scope.names [], c'⟩
    have I2 := I1.laid (a := h'.objs.size) (o := LamO h'.objs.size F eb) (h' := h'.push (PySem.W.kla_obj "<lambda>" (X.env.qual ++ "<lambda>") params eb scope (cloFrom X.env.cells scope.names []) ((X.mg "__name__").getD .none) c' ctv)) (t' := tk) (fun _ _ q => Heap.get?_push_of_some _ q) (Nat.le_refl _) (lamO_new (F := F) (Heap.get?_push_size _ rfl))
    have up : ∀ b o, H1 b = some o → upd H1 h'.objs.size (LamO h'.objs.size F eb) b = some o := fun b o e => by rw [upd_ne (ne_of_none e nF1)]; exact e
    refine h h'.objs.size c' _ _ I2 ⟨fun b o e => ?_, fun b o e n => up _ _ (hE b o e n), tb1.laid nF1⟩ nF upd_same (up _ _ atC)
    by_cases hb : b = P
    · exact ⟨_, up _ _ (by rw [hb]; exact atP)⟩
    · exact ⟨o, up _ _ (old b o e hb)⟩
  | some cv =>
    obtain ⟨c', e, hco⟩ := ha pos cv hc
    subst e
    refine PySem.W.kla_makeFunctionHit (mg := X.mg) (c := c) (P := P) (ps := ps) (closure_ok hfree) I.ok.glob (I.mod.glob.keeps I.bk) hcode (B.code.keeps I.bk) hP' ht hc bP fun ctv h' tk hx hsz => ?_
    let F : NF := ⟨"<lambda>", X.env.qual ++ "<lambda>", params, [], scope, cloFrom X.env.cells scope.names [], c'⟩
    have nF : H h'.objs.size = none := I.hok.fresh hsz
    have I2 := I.laid (a := h'.objs.size) (o := LamO h'.objs.size F eb) (h' := h'.push (PySem.W.kla_obj "<lambda>" (X.env.qual ++ "<lambda>") params eb scope (cloFrom X.env.cells scope.names []) ((X.mg "__name__").getD .none) c' ctv)) (t' := tk) (fun _ _ q => Heap.get?_push_of_some _ (hx _ _ q)) hsz (lamO_new (F := F) (Heap.get?_push_size _ rfl))
    have up : ∀ b o, H b = some o → upd H h'.objs.size (LamO h'.objs.size F eb) b = some o := fun b o e => by rw [upd_ne (ne_of_none e nF)]; exact e
    exact h h'.objs.size c' _ _ I2 ⟨fun b o e => ⟨o, up b o e⟩, fun b o e _ => up b o e, hT.laid nF⟩ nF upd_same (up _ _ hco)
end
end MM
set_option maxRecDepth 100000
set_option maxHeartbeats 2000000
namespace MM
open PySem PySem.Spec PyProof.Rows L2 LamX NdefX
variable [TB : Tabl]
/-! ### sorted(a, key=lambda x: ..) -/
def slotE (e : MEnv) (j : Nat) : Option D := match e[j]? with
  | some o => o
  | none => none
def loopK (me : M) (e0 : MEnv) : List D → Store → List D → Option (List D × Store)
  | [], S, acc => some (acc, S)
  | d :: l, S, acc => (me (some d :: e0) S).bind fun x => loopK me e0 l x.2 (acc ++ [x.1])
theorem lamO_no {f : Addr} {F : NF} {eb : Expr} : (∀ y, LamO f F eb ≠ .own y) ∧ ∀ ps, LamO f F eb ≠ .tbl ps := by
  unfold LamO
  exact ⟨fun _ => by simp, fun _ => by simp⟩
theorem codeO_no {c : Addr} {q : Str} : (∀ y, CodeO c q ≠ .own y) ∧ ∀ ps, CodeO c q ≠ .tbl ps := by
  unfold CodeO
  exact ⟨fun _ => by simp, fun _ => by simp⟩
def sortKD (ma me : M) (e0 : MEnv) : M := fun e S => (ma e S).bind fun x => (lstOf x.2 x.1).bind fun xs => if xs.length ≤ 4000 then (loopK me e0 xs x.2 []).bind fun r => (r.1.mapM (toPy r.2 60)).bind fun ps => if okSort ps = true then some (.lst ((isort leP (xs.zip ps)).map (·.1)), r.2) else none else none
def mSortK (ma me : M) (js : List Nat) (n : Nat) : M := fun e S => sortKD ma me (js.map (slotE e) ++ List.replicate n none) e S
theorem loopK_len {me : M} {e0 : MEnv} : ∀ {l : List D} {S : Store} {acc : List D} {r : List D × Store}, loopK me e0 l S acc = some r → r.1.length = acc.length + l.length
  | [], S, acc, r, h => by cases h; simp
  | d :: l, S, acc, r, h => by
    obtain ⟨x, h1, h⟩ := Option.bind_eq_some_iff.mp h
    have := loopK_len (l := l) h
    simp at this ⊢
    omega
theorem cx_no {P : Program} {w : World} {outer : List Env} : ∀ (H : Hp) (s : Shared) (e : Value) (s' : Shared), L2.CX P w outer H s E0 e s' → False := fun H s e s' h => by
  obtain ⟨_, _, _, _, _, _, _, _, _, _, _, _, z⟩ := h
  exact z
theorem start_env {K : PySem.W.Frag} {mg : Str → Option Value} {H : Hp} {W : Wd} {σ : L2.St} {e : MEnv} {v : V} {d : D} {N : List Str} {js : List Nat} {n : Nat} (hE : EnvOk K mg H W σ e) (r : Rep K mg H W v d) (hn : N.length - 1 - js.length = n) :
    EnvOk K mg H W (startF N [v] (js.map (slotAt σ))) (some d :: (js.map (slotE e) ++ List.replicate n none)) := by
  refine ⟨by simp [startF, hn], fun i c q => ?_⟩
  cases i with
  | zero =>
    simp at q
    subst q
    exact ⟨v, by simp [startF], r⟩
  | succ i =>
    simp only [List.getElem?_cons_succ] at q
    have e1 : (startF N [v] (js.map (slotAt σ)))[i + 1]? = (js.map (slotAt σ) ++ List.replicate (N.length - 1 - js.length) none)[i]? := by simp [startF]
    rw [e1]
    by_cases hi : i < js.length
    · rw [List.getElem?_append_left (by simpa using hi), List.getElem?_map] at q ⊢
      rw [List.getElem?_eq_getElem hi] at q ⊢
      have q : slotE e js[i] = some c := by simpa using q
      unfold slotE at q
      split at q
      · rename_i o ho
        subst q
        obtain ⟨u, h1, h2⟩ := hE.at_ _ _ ho
        exact ⟨u, by simp [slotAt_of h1], h2⟩
      · cases q
    · rw [List.getElem?_append_right (by simpa using hi), List.getElem?_replicate] at q
      split at q <;> cases q
section
variable {X : Cx} {pins : List (Addr × Obj)} {s : Shared} {σ : L2.St} {H : Hp} {W : Wd} {S S' : Store} {l f : Addr} {F : NF} {eb : Expr} {vs : List V} {xs kds : List D} {ps : List PyData} {me : M} {e : MEnv} {js : List Nat} {n k : Nat} {N fr : List Str} {x : Str} {Q : VK}
theorem sortK_run (hr : Room (k + 3) X.A) (I : Inv X pins σ H s) (hS : StoreOk X.K X.mg H W S) (hE : EnvOk X.K X.mg H W σ e) (hl : SqL X.K H l vs) (r : Reps X.K X.mg H W vs xs) (hz : xs.length ≤ 4000)
    (hf : H f = some (LamO f F eb)) (hc : H F.c = some (CodeO F.c F.qual)) (fz : f ∉ W.r) (fzc : F.c ∉ W.r) (C : ∀ s1 H1, Inv X pins σ H1 s1 → CellsAt F.cl fr (js.map (slotAt σ)) s1.heap H1) (NS : NScope N [x] fr F.scope) (hn : N.length - 1 - js.length = n)
    (hb : ∀ (pm ctv : Value) (us : List Value), us.length = [x].length → bindArgs (PySem.W.kla_fn "<lambda>" F.qual F.params eb F.scope F.cl pm (.ref F.c) ctv) ⟨us, []⟩ = pure ([x].zip us))
    (hbody : ∀ (A : Around) (outer : List Env) (s : Shared) (H : Hp), Room k (A.deeper (envF F f s.heap.objs.size)) → SE (ncx (L2.CX X.prog X.w) X.prog X.w X.K X.mg X.base N F f A outer s H E0) eb me)
    (hk : loopK me (js.map (slotE e) ++ List.replicate n none) xs S [] = some (kds, S')) (hp : kds.mapM (toPy S' 60) = some ps) (hok : okSort ps = true)
    (q : ∀ p W' H', Step W H W' H' → H p = none → p ∉ W'.r → p ∉ W'.x → Holds X.K X.mg H' (W'.push p) p (.lst ((isort leP (xs.zip ps)).map (·.1))) → StoreOk X.K X.mg H' (W'.push p) S' → Q (.ref p) H') :
    wpAny (model X.prog X.w) X.A (call (.builtin "sorted") [.ref l] [(Str.ofString "key", .ref f)]) (EP X pins σ Q) X.xe s := by
  obtain ⟨its, rv, pl, hzl⟩ := I.list hl
  have lv : its.length = xs.length := by rw [← rv.length, r.length]
  have lk : kds.length = xs.length := by simpa using loopK_len hk
  have lp : ps.length = xs.length := by rw [← mapM_len hp, lk]
  have hZ : its.length ≤ sizeLine := by rw [lv]; exact Nat.le_of_lt (line_big hz)
  obtain ⟨o1, o2, o3⟩ := okSort_at hok
  refine call_function_entry_kw kind_sorted plain_sorted entry_sorted (PyProof.Rows.ksk_s1 _ _) ?_
  unfold Builtin.«sorted»
  refine wpAny_bind (m := checkCount "sorted" 1 1 _) (wpAny_pure ?_)
  refine wpAny_bind (collect_list pl.isList ?_ hZ)
  refine wpAny_bind (wpAny_newList ?_ hZ)
  have hsz : ((s.heap.push (seqObj "list" #[] 0)).update s.heap.objs.size (Obj.mapSeq (· ++ its.toArray))).objs.size = s.heap.objs.size + 1 := by
    rw [Heap.size_update, size_push']
  have hoL : (((s.heap.push (seqObj "list" #[] 0)).update s.heap.objs.size (Obj.mapSeq (· ++ its.toArray))).push (seqObj "list" its.toArray 0)).get? (s.heap.objs.size + 1) = some (seqObj "list" its.toArray 0) := by
    rw [← hsz]; exact Heap.get?_push_size _ rfl
  have keep : ∀ b o, s.heap.get? b = some o → b ≠ s.heap.objs.size + 1 ∧ (((s.heap.push (seqObj "list" #[] 0)).update s.heap.objs.size (Obj.mapSeq (· ++ its.toArray))).push (seqObj "list" its.toArray 0)).get? b = some o := fun b o q => by
    have hlt : b < s.heap.objs.size := Heap.lt_size q
    refine ⟨Nat.ne_of_lt (Nat.lt_succ_of_lt hlt), Heap.get?_push_of_some _ ?_⟩
    rw [Heap.get?_update_ne _ _ _ _ (Nat.ne_of_lt hlt)]
    exact Heap.get?_push_of_some _ q
  show wpAny _ _ _ _ _ { s with heap := ((s.heap.push (seqObj "list" #[] 0)).update s.heap.objs.size (Obj.mapSeq (· ++ its.toArray))).push (seqObj "list" its.toArray 0) }
  rw [hsz]
  refine wpAny_bind (wpAny_holding (wpAny_call_entry_kw slot_list_sort ⟨_, hoL, rfl⟩ entry_list_sort ?_ (PyProof.Rows.ksk_l1 _ _)))
  rw [PyProof.Rows.ksk_t1]
  have hs2 : (((s.heap.push (seqObj "list" #[] 0)).update s.heap.objs.size (Obj.mapSeq (· ++ its.toArray))).push (seqObj "list" its.toArray 0)).objs.size = s.heap.objs.size + 2 := by rw [size_push', hsz]
  generalize hh5 : ((s.heap.push (seqObj "list" #[] 0)).update s.heap.objs.size (Obj.mapSeq (· ++ its.toArray))).push (seqObj "list" its.toArray 0) = h5 at hoL keep hs2 ⊢
  generalize ha : s.heap.objs.size + 1 = a at hoL keep ⊢
  have na : H a = none := I.hok.fresh (by omega)
  have nk : H (h5.objs.size + 1) = none := I.hok.fresh (by omega)
  have hu : X.A.units + 200 < cLine := by have := hr.un; omega
  refine kj_tree (s := { s with heap := h5 }) (n := 0) (kz := ps) (vs := its) (J := fun i us s1 => ∃ (Wi : Wd) (Hi : Hp) (Si : Store) (ks : List V) (kd : List D), Inv X pins σ Hi s1 ∧ Step W H Wi Hi ∧ StoreOk X.K X.mg Hi Wi Si ∧ Vals ks us ∧ Reps X.K X.mg Hi Wi ks kd ∧ loopK me (js.map (slotE e) ++ List.replicate n none) (xs.drop i) Si kd = some (kds, S') ∧ Hi a = none ∧ Hi (h5.objs.size + 1) = none)
    hoL (by rw [lp, lv]) hZ o1 o2 (fun d hd => by have := o3 d hd; show X.A.units + 1 + 1 + d.depth < cLine; omega) ?_ ?_ ?_ ?_ ?_
  · intro g kp sz
    refine ⟨W, H, S, [], [], ?_, .refl, hS, .nil, .nil, by simpa using hk, na, nk⟩
    have I0 : Inv X pins σ H { s with heap := g, toks := s.toks } := I.turnedL (ch := []) (fun b o _ e => kp b o (keep b o e).1 (keep b o e).2) fun b z => nomatch z
    exact I0
  · rintro i us s1 g kp ⟨Wi, Hi, Si, ks, kd, I1, st, ss, rk, rd, hl1, n1, n2⟩
    refine ⟨Wi, Hi, Si, ks, kd, ?_, st, ss, rk, rd, hl1, n1, n2⟩
    exact I1.turnedL (ch := [h5.objs.size + 1]) (t' := s1.toks) (fun b o hb e => kp b o (fun z => hb (by simp [z])) e) fun b z => by rw [List.mem_singleton.mp z]; exact I.fpOk (by omega) n2
  · rintro i v us s1 kA e0 e1 hv ⟨Wi, Hi, Si, ks, kd, I1, st, ss, rk, rd, hl1, n1, n2⟩ gk ga
    obtain ⟨d, hd⟩ : ∃ d, xs[i]? = some d := by
      have : i < xs.length := by rw [← lv]; exact (List.getElem?_eq_some_iff.mp hv).1
      exact ⟨_, List.getElem?_eq_getElem this⟩
    obtain ⟨vi, hvi, rd1⟩ := r.get hd
    obtain ⟨u', hu', rv1⟩ := rv.get hvi
    rw [hv] at hu'
    cases hu'
    rw [drop_get hd] at hl1
    obtain ⟨⟨kd1, S2⟩, hm, hl1⟩ := Option.bind_eq_some_iff.mp hl1
    have hr1 : Room (k + 1) X.A.in1.in1 := Room.in1 (Room.in1 hr)
    have e0' : Env0 X.prog X.w X.K X.mg X.base X.A.in1.in1 X.stack s1 Hi := ⟨I1.ok.frames, I1.env0.mod, I1.env0.bs, I1.env0.bsz, I1.env0.funs, I1.env0.frf, I1.env0.hok, I1.env0.bare⟩
    refine wpAny_call (codeAny_mono (run_lam (E := E0) (CX := L2.CX X.prog X.w) (Q := fun v' H' => ∃ W2, Step Wi Hi W2 H' ∧ Rep X.K X.mg H' W2 v' kd1 ∧ StoreOk X.K X.mg H' W2 S2) NS hb hr1 e0' (st.fr _ _ hf fz lamO_no.2 fun y z => (lamO_no.1 y z).elim) (st.fr _ _ hc fzc codeO_no.2 fun y z => (codeO_no.1 y z).elim) (C s1 Hi I1) (.cons rv1 .nil) rfl (fun hra => hbody _ _ _ _ hra) ?_) fun r1 s' hq => ?_)
    · exact ⟨Wi, _, Si, kd1, S2, start_env (hE.mono st) (rd1.mono st) hn, ss, hm, fun v' W' H' st' r' s' => ⟨W', st', r', s'⟩⟩
    · cases r1 with
      | error er => exact (cx_no _ _ _ _ hq).elim
      | ok fl =>
        cases fl with
        | ret u =>
          obtain ⟨v', H', os, bare, un, hok', rv', W2, st2, rp2, ss2⟩ := hq
          have I2 : Inv X pins σ H' s' := I1.call' os un hok' bare fun b z => nomatch z
          have fa := I.fpOk (b := a) (by omega) n1
          have fk := I.fpOk (b := h5.objs.size + 1) (by omega) n2
          have nst : ∀ b, FpOk X pins Hi b → b ∉ frs X.stack := fun b fb z => (List.mem_cons.mp (I1.stkSub b z)).elim fb.2.1 fb.2.2.1
          have ga' := un.keep a _ ga n1 (nst _ fa) (fun z => nomatch z)
          have gk' := un.keep _ _ gk n2 (nst _ fk) (fun z => nomatch z)
          refine ⟨⟨W2, H', S2, ks ++ [v'], kd ++ [kd1], I2, st.trans st2, ss2, rk.append (.cons rv' .nil), (rd.mono st2).append (.cons rp2 .nil), hl1, un.free a _ ga n1 (fun z => nomatch z), un.free _ _ gk n2 fun z => nomatch z⟩, gk', ga'⟩
        | next => exact False.elim hq
        | brk => exact False.elim hq
        | cont => exact False.elim hq
  · rintro us s1 ⟨Wi, Hi, Si, ks, kd, I1, st, ss, rk, rd, hl1, n1, n2⟩
    rw [lv, List.drop_length] at hl1
    cases hl1
    have l1 : ks.length = ps.length := by rw [rd.length, lk, lp]
    refine ⟨by rw [← rk.length, rd.length, lk, lv], ?_⟩
    have hd := dps_ok ss rd hp
    have ee : PySem.W.EachIs (fun (u : Value) (p : V × PyData) => RelV p.1 u) us (ks.zip ps) := each_vals (by rw [List.map_fst_zip (by omega)]; exact rk)
    have e2 := each_and (T := fun (u : Value) (p : V × PyData) => ∃ as, Reads s1.heap u p.2 as) ee fun u p hp rr => Dp.reads I1 p.2 p.1 u (hd p hp) rr
    have e3 := PySem.W.each_map (R := fun v kx => ∃ as, Reads s1.heap v kx as) (fun p : V × PyData => p.2) e2
    rw [List.map_snd_zip (by omega)] at e3
    exact e3
  · rintro us s1 h' tk out c ⟨Wi, Hi, Si, ks, kd, I1, st, ss, rk, rd, hl1, n1, n2⟩ kp ga ko
    rw [lv, List.drop_length] at hl1
    cases hl1
    refine ⟨_, rfl, wpAny_pure ⟨_, rfl, ?_⟩⟩
    have fa := I.fpOk (b := a) (by omega) n1
    have fk := I.fpOk (b := h5.objs.size + 1) (by omega) n2
    obtain ⟨G, g1, g2⟩ := restrict h' fun b => decide (b ≠ a)
    have I2 : Inv X pins σ Hi { s1 with heap := G, toks := tk } := I1.turnedL (ch := [a, h5.objs.size + 1]) (fun b o hb e => by
      have hb1 : b ≠ a := fun z => hb (by simp [z])
      rw [g1 b (by simpa using hb1)]
      exact kp b o hb1 (fun z => hb (by simp [z])) e) fun b z => by
        rcases List.mem_cons.mp z with z | z
        · rw [z]; exact fa
        · rw [List.mem_singleton.mp z]; exact fk
    have hR : PySem.W.EachIs (fun (u : Value) (p : V × PyData) => RelV p.1 u) its (vs.zip ps) := each_vals (by rw [List.map_fst_zip (by rw [r.length, lp]; exact Nat.le_refl _)]; exact rv)
    have ko' : PySem.W.KeyedOut false ((vs.zip ps).map fun p : V × PyData => p.2) its out := by
      have e : ((vs.zip ps).map fun p : V × PyData => p.2) = ps := List.map_snd_zip (by rw [r.length, lp]; exact Nat.le_refl _)
      rw [e]; exact ko
    have h2 := PySem.W.keyedOut_each (fun p : V × PyData => p.2) ko' hR
    have e1 : (vs.zip ps).mergeSort (PySem.W.dataLe false fun p : V × PyData => p.2) = isort leP (vs.zip ps) := (isort_eq leP_total _).symm
    rw [e1] at h2
    have hlen : ((isort leP (vs.zip ps)).map (·.1)).length ≤ sizeLine := by
      rw [List.length_map, isort_eq leP_total, List.length_mergeSort, List.length_zip]; exact Nat.le_trans (Nat.min_le_left _ _) (by rw [r.length, ← lv]; exact hZ)
    refine ⟨.ref a, upd Hi a (.lst ((isort leP (vs.zip ps)).map (·.1))), I2.laidN (t' := tk) (h' := h') (fun b u e => ?_) (g2 a (by simp)) n1 ⟨hlen, out, c, vals_each h2, ga⟩, rfl, ?_⟩
    · by_cases hb : b = a
      · rw [hb, g2 a (by simp)] at e; cases e
      · rw [g1 b (by simpa using hb)] at e; exact e
    · exact new_list ss (reps_isort (r.mono st)) (fun p H3 st3 h3 hx hh ho => q p Wi H3 (st.trans st3) (st.free h3) (ss.nw h3) hx hh ho) a n1
end
end MM
set_option maxRecDepth 100000
set_option maxHeartbeats 2000000
namespace MM
open PySem PySem.Spec PyProof.Rows L2 LamX NdefX
variable [TB : Tabl]
section
variable {K : PySem.W.Frag} {mg : Str → Option Value} {H H1 : Hp} {W : Wd} {S : Store}
theorem Holds.ntbl {a : Addr} {d : D} (h : Holds K mg H W a d) : ∀ o, H a = some o → ∀ ps, o ≠ .tbl ps := by
  intro o e
  cases h with
  | lst h r => rw [h] at e; cases e; exact fun _ => by simp
  | dicK h _ r => rw [h] at e; cases e; exact fun _ => by simp
  | dicT h _ r => rw [h] at e; cases e; exact fun _ => by simp
  | obj f2 hc n h h2 r => rw [h] at e; cases e; exact fun _ => slO_tbl
  | obj0 hc n hw h h2 => rw [h] at e; cases e; exact fun _ => by simp
theorem Holds.noCode {P : Program} {w : World} {h0 : Heap} (ok : HOk P w H h0) {a : Addr} {d : D} (h : Holds K mg H W a d) {c : Addr} {q : Str} (e : H a = some (CodeO c q)) : a ≠ c := fun z => by
  cases h with
  | lst h r => rw [h] at e; unfold CodeO at e; cases e
  | dicK h _ r => rw [h] at e; unfold CodeO at e; cases e
  | dicT h _ r => rw [h] at e; unfold CodeO at e; cases e
  | obj f2 hc n h h2 r =>
    obtain ⟨⟨sl, e1, _⟩, _, _⟩ := ok a _ h
    obtain ⟨⟨oc, vs, t, e2, e3, _⟩, _, _⟩ := ok a _ e
    rw [← z, e1] at e2
    cases e2
    cases e3
  | obj0 hc n hw h h2 => rw [h] at e; unfold CodeO at e; cases e
theorem StoreOk.holds (s : StoreOk K mg H W S) {a : Addr} (h : a ∈ W.r) : ∃ d, Holds K mg H W a d := by
  obtain ⟨n, hn, e⟩ := List.mem_iff_getElem.mp h
  have h1 : W.r[n]? = some a := by rw [List.getElem?_eq_getElem hn, e]
  have h2 : n < S.length := by rw [s.len]; exact hn
  exact ⟨_, s.at_ n a _ h1 (List.getElem?_eq_getElem h2)⟩
theorem StoreOk.noCode {P : Program} {w : World} {h0 : Heap} (ok : HOk P w H h0) (s : StoreOk K mg H W S) {c : Addr} {q : Str} (h : H c = some (CodeO c q)) : c ∉ W.r := fun z => by
  obtain ⟨d, hd⟩ := s.holds z
  exact hd.noCode ok h rfl
theorem Made.store (m : Made H H1) (s : StoreOk K mg H W S) : StoreOk K mg H1 W S := by
  refine ⟨s.len, s.nd, s.ap, fun a ha => ?_, fun n a d h1 h2 => ?_, m.tb⟩
  · obtain ⟨o, e⟩ := s.xt a ha
    exact m.th a o e
  · have hd := s.at_ n a d h1 h2
    exact hd.keep (m.step W) (fun o e => m.fr a o e (hd.ntbl o e)) fun dx e => m.fr dx _ e fun _ => by simp
end
section
variable {X : Cx} {c P : Addr} {params : Arguments} {eb a : Expr} {scope : Scope} {lp pos p kp : Pos} {ma me : M} {js : List Nat} {n k : Nat} {N fr : List Str} {x : Str}
abbrev lamF (X : Cx) (params : Arguments) (scope : Scope) (c' : Addr) : NF := ⟨"<lambda>", X.env.qual ++ "<lambda>", params, [], scope, cloFrom X.env.cells scope.names [], c'⟩
theorem pe_lam (B : TabB X.base X.mg c P) (hcode : X.env.code = .ref c) (hm : (P, X.env.qual ++ "<lambda>") ∈ TB.T) (hdef : defaultsOf params X.env = ([], [])) (hfree : X.Ok → ∀ y ∈ scope.names, y.2 = .free → ∃ c, X.env.cells.lookup y.1 = some c) :
    PE X (.Lambda params eb scope lp) (fun σ H Q => TbOk H ∧ ∀ f c' H1, Made H H1 → H f = none → H1 f = some (LamO f (lamF X params scope c') eb) → H1 c' = some (CodeO c' (X.env.qual ++ "<lambda>")) → Q (.ref f) H1) :=
  ⟨fun pins s σ H Q I h => lam_make3 I B hcode hm h.1 hdef (hfree I.ok) fun f c' H1 s' I1 m n e1 e2 => ⟨.ref f, H1, I1, rfl, h.2 f c' H1 m n e1 e2⟩⟩
theorem sc_sortK (hr : Room (k + 3) X.A) (hg : Gl X "sorted") (hmg : X.mg "sorted" = none) (B : TabB X.base X.mg c P) (hcode : X.env.code = .ref c) (hT : (P, X.env.qual ++ "<lambda>") ∈ TB.T)
    (hnd : ndefB X.env.scope scope fr = true) (NS : NScope N [x] fr scope) (hjs : js.map (fun j => X.N[j]?) = fr.map some) (hn : N.length - 1 - js.length = n)
    (hb : ∀ (q : Str) (cl : List (Str × Addr)) (c' : Addr) (pm ctv : Value) (us : List Value), us.length = [x].length → bindArgs (PySem.W.kla_fn "<lambda>" q params eb scope cl pm (.ref c') ctv) ⟨us, []⟩ = pure ([x].zip us))
    (ha : SE X a ma)
    (hbody : ∀ (f c' : Addr) (A : Around) (outer : List Env) (s : Shared) (H : Hp), Room k (A.deeper (envF (lamF X params scope c') f s.heap.objs.size)) → SE (ncx (L2.CX X.prog X.w) X.prog X.w X.K X.mg X.base N (lamF X params scope c') f A outer s H E0) eb me)
    (hdef : defaultsOf params X.env = ([], []) := by rfl)
    (he0 : starEach [a] X.env = (false, eval a X.env) :: starEach [] X.env := by rfl)
    (he : backTo pos (starEach [a] X.env) = (false, eval a X.env) :: backTo pos (starEach [] X.env) := by rfl) (hpl : (backTo pos (starEach [a] X.env)).any (·.1) = false := by rfl)
    (hall : (backToKw pos (keywordEach [⟨some "key", .Lambda params eb scope lp, kp⟩] X.env)).all (·.1.isSome) = true := by rfl) (hnone : (backToKw pos (keywordEach [⟨some "key", .Lambda params eb scope lp, kp⟩] X.env)).any (·.1.isNone) = false := by rfl)
    (hks : (backToKw pos (keywordEach [⟨some "key", .Lambda params eb scope lp, kp⟩] X.env)).filterMap (·.1) = [Str.ofString "key"] := by rfl) :
    SC X (.Call (.Name "sorted" p) [a] [⟨some "key", .Lambda params eb scope lp, kp⟩] pos) (mSortK ma me js n) := by
  refine ⟨fun pins s σ H Q I h => ?_⟩
  obtain ⟨W, en, S, d, S', hE, hS, hm, q⟩ := h
  unfold mSortK sortKD at hm
  obtain ⟨⟨d1, S1⟩, h1, hm⟩ := Option.bind_eq_some_iff.mp hm
  obtain ⟨xs, h2, hm⟩ := Option.bind_eq_some_iff.mp hm
  split at hm
  · rename_i hz
    obtain ⟨⟨kds, S2⟩, h3, hm⟩ := Option.bind_eq_some_iff.mp hm
    obtain ⟨ps, h4, hm⟩ := Option.bind_eq_some_iff.mp hm
    split at hm
    · rename_i hok
      cases hm
      have hfree : X.Ok → ∀ y ∈ scope.names, y.2 = .free → ∃ c, X.env.cells.lookup y.1 = some c := fun ok y hy e => (ndef_free hnd y hy e).elim (fun z => ok.has _ (.inl z)) fun z => ok.has _ (.inr z)
      refine wpAny_Call_Name_kw (ld_blt (u := .builtin "sorted") I hg hmg (by decide +kernel) ?_ (by decide) (by decide))
      refine PyProof.Rows.callWith_kw (thn ((pa_cons ha pa_nil he0).run pos pins s σ H (fun vs1 H1 => ∃ v W1, vs1 = [v] ∧ Step W H W1 H1 ∧ Rep X.K X.mg H1 W1 v d1 ∧ StoreOk X.K X.mg H1 W1 S1) I ⟨W, en, S, d1, S1, hE, hS, h1, fun v W1 H1 st r s => ⟨v, W1, rfl, st, r, s⟩⟩) fun us s1 ⟨vs1, H1, I1, r1, q1⟩ => ?_) he hpl hall hnone
      obtain ⟨v, W1, rfl, st1, rv, ss1⟩ := q1
      refine thn ((pk_cons (pe_lam (eb := eb) (lp := lp) B hcode hT hdef hfree) pk_nil).run pos pins s1 σ H1 (fun zs H2 => ∃ f c', zs = [.ref f] ∧ Made H1 H2 ∧ H1 f = none ∧ H2 f = some (LamO f (lamF X params scope c') eb) ∧ H2 c' = some (CodeO c' (X.env.qual ++ "<lambda>"))) I1 ⟨ss1.tb, fun f c' H2 m n e1 e2 => ⟨f, c', rfl, m, n, e1, e2⟩⟩) fun ws s2 ⟨zs, H2, I2, r2, q2⟩ => ?_
      obtain ⟨f, c', rfl, m, nf, e1, e2⟩ := q2
      rw [hks]
      obtain rfl := Vals.ref1 r2
      have ss2 := m.store ss1
      have st2 := m.step W1
      obtain ⟨l, vs, rfl, hq, rr⟩ := (rv.mono st2).lstS ss2 h2
      obtain rfl := Vals.ref1 r1
      have C : ∀ s3 H3, Inv X pins σ H3 s3 → CellsAt (lamF X params scope c').cl fr (js.map (slotAt σ)) s3.heap H3 := fun s3 H3 I3 => cells_of I3 (Caps.made I3.ok (ndef_free hnd) (ndef_fr hnd) hjs)
      exact sortK_run hr I2 ss2 (hE.mono (st1.trans st2)) hq rr hz e1 e2 (ss1.nw nf) (ss2.noCode I2.hok e2) C NS hn (hb _ _ _) (hbody f c') h3 h4 hok fun p W' H' st hp n1 n2 hh hs => q p W' H' ((st1.trans st2).trans st) (st1.free (st2.free hp)) n1 n2 hh hs
    · cases hm
  · cases hm
end
end MM
set_option maxRecDepth 100000
set_option maxHeartbeats 2000000
namespace MM
open PySem PySem.Spec PyProof.Rows L2 LamX NdefX
variable [TB : Tabl]
/-! ### a def whose code object is at c -/
structure FunL (K : PySem.W.Frag) (x q : Str) (st : Stmt) (f : Addr) (fd : FuncData) (c : Addr) : Prop where
  fu : Fun K x q st f fd
  ex : ∃ (oc : Value) (od : Option Addr) (kV doc pm : Value) (an : Option Addr) (ct : Value) (osl : Array (Option Value)),
    fd = PySem.W.fnOf x q (defArgs st) (defBody st) (defScope st) .none kV doc pm an (.ref c) ct ∧ K.lookup f = some ⟨oc, od, .func fd, osl⟩ ∧ PySem.W.codeIn K (.ref c) q = true
structure RawL (K : PySem.W.Frag) (mg : Str → Option Value) (x : Str) (st : Stmt) (c : Addr) : Prop where
  ex : ∃ f fd, FunL K x x st f fd c ∧ mg x = some (.ref f)
structure RawML (K : PySem.W.Frag) (mg : Str → Option Value) (cl m q : Str) (st : Stmt) (c : Addr) : Prop where
  ex : ∃ C f fd, mg cl = some (.ref C) ∧ SlX.SCls K C ∧ Meth K C m f ∧ FunL K m q st f fd c
section
variable {P : Program} {w : World} {K : PySem.W.Frag} {mg : Str → Option Value} {base : Heap} {x cl m q : Str} {st : Stmt} {N ps : List Str} {k ar : Nat} {ms : MS} {c : Addr}
theorem fn_okL {f : Addr} {fd : FuncData} (F : FunL K x q st f fd c) (S : FnScope N ps (defScope st)) (har : ps.length = ar)
    (hbody : ∀ (A : Around) (outer : List Env) (s : Shared) (H : Hp) (E : XK), Room k (A.deeper (envOfC q (defScope st) s.heap.objs.size f (.ref c))) → SS (cxOf (L2.CX P w) P w K mg base N q (defScope st) f (.ref c) A outer s H E) (defBody st) ms) :
    FnOk P w K mg base (L2.CX P w) (k + 1) f fd ps (spOf K mg (fnM N.length ms) ar) := by
  obtain ⟨oc, od, kV, doc, pm, an, ct, osl, rfl, lk, hcd⟩ := F.ex
  refine fn_of lk hcd S (fun vs H Q E h => by rw [har]; exact h.1) fun A outer s H vs Q E hr ⟨hl, W, S0, ds, d, S', r, hS, hF, q⟩ => ⟨_, hbody A outer s H E hr, ?_⟩
  unfold fnM at hF
  split at hF
  · rename_i d1 e1 S1 hm
    cases hF
    exact ⟨W, _, S0, _, _, _, startE_ok r, hS, hm, fun v W' H' s1 r1 o1 => q v W' H' s1 r1 o1⟩
  · rename_i e1 S1 hm
    cases hF
    exact ⟨W, _, S0, _, _, _, startE_ok r, hS, hm, fun σ' W' H' s1 r1 o1 => q .non W' H' s1 .non o1⟩
  · cases hF
theorem df_ofL (R : RawL K mg x st c) (hb : ∀ f fd, Fun K x x st f fd → Binds K fd ps []) (S : FnScope N ps (defScope st)) (har : ps.length = ar)
    (hbody : ∀ (f : Addr) (A : Around) (outer : List Env) (s : Shared) (H : Hp) (E : XK), Room k (A.deeper (envOfC x (defScope st) s.heap.objs.size f (.ref c))) → SS (cxOf (L2.CX P w) P w K mg base N x (defScope st) f (.ref c) A outer s H E) (defBody st) ms) :
    Df P w K mg base x st (k + 1) ps (fnM N.length ms) ar := by
  obtain ⟨f, fd, F, hm⟩ := R.ex
  exact ⟨f, fd, fn_okL F S har (hbody f), hm, F.fu, hb f fd F.fu⟩
theorem dm_ofL (R : RawML K mg cl m q st c) (hb : ∀ f fd, Fun K m q st f fd → Binds K fd ps []) (S : FnScope N ps (defScope st)) (har : ps.length = ar)
    (hbody : ∀ (f : Addr) (A : Around) (outer : List Env) (s : Shared) (H : Hp) (E : XK), Room k (A.deeper (envOfC q (defScope st) s.heap.objs.size f (.ref c))) → SS (cxOf (L2.CX P w) P w K mg base N q (defScope st) f (.ref c) A outer s H E) (defBody st) ms) :
    Dm P w K mg base cl m q st (k + 1) ps (fnM N.length ms) ar := by
  obtain ⟨C, f, fd, hC, hk, hm, F⟩ := R.ex
  exact ⟨C, f, fd, hC, hk, hm, fn_okL F S har (hbody f), F.fu, hb f fd F.fu⟩
theorem RawL.raw (R : RawL K mg x st c) : Raw K mg x st := by
  obtain ⟨f, fd, F, hm⟩ := R.ex
  exact ⟨f, fd, F.fu, hm⟩
end
theorem raw_mkL {K : PySem.W.Frag} {h : Heap} {mg : Str → Option Value} {x : Str} {st : Stmt} {f c : Addr} {od an : Option Addr} {sl : Array (Option Value)} {oc kV dc pm ct : Value} (X : K.In h) (G : h.Ns mainGlobals mg)
    (a : PySem.W.nsIn K mainGlobals x = some (some (.ref f))) (l : K.lookup f = some ⟨oc, od, .func (PySem.W.fnOf x x (defArgs st) (defBody st) (defScope st) .none kV dc pm an (.ref c) ct), sl⟩) (cc : PySem.W.codeIn K (.ref c) x = true) (k : PySem.W.keepIn K (.ref f) = true) : RawL K mg x st c :=
  ⟨f, _, ⟨fun_mk l cc k, _, _, _, _, _, _, _, _, rfl, l, cc⟩, PySem.W.mg_of X G a⟩
theorem rawM_mkL {K : PySem.W.Frag} {h : Heap} {mg : Str → Option Value} {cl m q : Str} {st : Stmt} {C f c : Addr} {od an : Option Addr} {sl : Array (Option Value)} {oc kV dc pm ct : Value} (X : K.In h) (G : h.Ns mainGlobals mg)
    (aC : PySem.W.nsIn K mainGlobals cl = some (some (.ref C))) (sc : SlX.SCls K C) (a : PySem.W.findIn K (.ref C) m = some (some (.ref f))) (i : PySem.W.isFn K (.ref f) = true)
    (l : K.lookup f = some ⟨oc, od, .func (PySem.W.fnOf m q (defArgs st) (defBody st) (defScope st) .none kV dc pm an (.ref c) ct), sl⟩) (cc : PySem.W.codeIn K (.ref c) q = true) (k : PySem.W.keepIn K (.ref f) = true) : RawML K mg cl m q st c :=
  ⟨C, f, _, PySem.W.mg_of X G aC, sc, ⟨a, i, k⟩, fun_mk l cc k, _, _, _, _, _, _, _, _, rfl, l, cc⟩
/-- where a code object's table lies -/
def tabOf (vs : Array Value) : Option Addr := match (vs[11]? : Option Value) with
  | some (.ref P) => some P
  | _ => none
/-! ### the law's end -/
def spLw (K : PySem.W.Frag) : Sp := fun vs H Q _ => ∃ (a : Addr) (ns : List Int), vs = [.ref a] ∧ ns.length ≤ 63 ∧ TbOk H ∧ Scr K H a (ns.map V.int) ∧ ∀ H', Q (.bl true) H'
def spLt (K : PySem.W.Frag) : Sp := fun vs H Q E => ∃ (a : Addr) (ns : List Int), vs = [.ref a] ∧ ns.length ≤ 63 ∧ TbOk H ∧ SqL K H a (ns.map V.int) ∧ (∀ H', Q (.bl true) H') ∧ E = E0
theorem lw_imp {K : PySem.W.Frag} {mg : Str → Option Value} {F : Fn} (h : LawOk F) (vs : List V) (H : Hp) (Q : VK) (E : XK) (x : spLw K vs H Q E) : spOf K mg F 1 vs H Q E := by
  obtain ⟨a, ns, rfl, hl, htb, hs, q⟩ := x
  obtain ⟨S, hS⟩ := h ns hl
  refine ⟨rfl, ⟨[], []⟩, [], [.scr (ns.map .int)], .bl true, S, .cons (.scr hs (Reps.ints ns)) .nil, ⟨rfl, .nil, (fun a ha => nomatch ha), (fun a ha => nomatch ha), fun n a d h1 h2 => (by simp at h1), htb⟩, hS, fun v W' H' st r s => ?_⟩
  cases r
  exact q H'
section
variable {P : Program} {w : World} {K : PySem.W.Frag} {mg : Str → Option Value} {base : Heap} {k : Nat} {f : Addr} {fd : FuncData} {ps : List Str}
theorem tb_frz {H : Hp} {a : Addr} {vs : List V} {o : Obj} (tb : TbOk H) (hs : H a = some (.lst vs)) : TbOk (upd H a (.frz o (.lst vs))) :=
  tb.put hs (fun _ => by simp) (fun _ _ => by unfold CodeO; simp) fun b o hb e _ => by rw [upd_ne hb]; exact e
theorem sq_cases {H : Hp} {a : Addr} {vs : List V} (hs : SqL K H a vs) : H a = some (.lst vs) ∨ Scr K H a vs := by
  rcases hs with (hs | hs) | hs
  · exact .inl hs
  · exact .inr (.inl hs)
  · exact .inr (.inr hs)
/-- the script may be a list that is tracked: it is taken for a frozen one -/
theorem lt_of (F : FnOk P w K mg base (L2.CX P w) k f fd ps (spLw K)) : FnOk P w K mg base (L2.CX P w) k f fd ps (spLt K) := by
  refine ⟨fun vs H Q E ⟨a, ns, e, hl, tb, hs, q, _⟩ => ?_, fun A outer s H args us vs Q E hr e0 hb rv ⟨a, ns, e, hl, tb, hs, q, hE⟩ => ?_⟩
  · subst e
    rcases sq_cases hs with hs | hs
    · exact F.len _ (upd H a (.frz { cls := .type "list", data := .seq #[] 0 } (.lst (ns.map V.int)))) Q E ⟨a, ns, rfl, hl, tb_frz tb hs, .inl ⟨_, upd_same⟩, q⟩
    · exact F.len _ H Q E ⟨a, ns, rfl, hl, tb, hs, q⟩
  · subst e hE
    rcases sq_cases hs with hs | hs
    · obtain ⟨hz, its, n, r1, g1⟩ := e0.hok a _ hs
      have ok2 : HOk P w (upd H a (.frz { cls := .type "list", data := .seq its.toArray n } (.lst (ns.map V.int)))) s.heap :=
        e0.hok.write (e := a) (by rw [hs]; exact True.intro) (.inl rfl) (fun b u _ e => e) ⟨_, g1⟩ ⟨g1, hz, its, n, r1, g1⟩
      have nn : ∀ b, H b = none → b ≠ a := fun b e z => by rw [z, hs] at e; cases e
      have up : ∀ b, b ≠ a → upd H a (.frz { cls := .type "list", data := .seq its.toArray n } (.lst (ns.map V.int))) b = H b := fun b e => upd_ne e
      have e1 : Env0 P w K mg base A outer s (upd H a (.frz { cls := .type "list", data := .seq its.toArray n } (.lst (ns.map V.int)))) :=
        ⟨e0.frames, e0.mod, fun b o e => ⟨(e0.bs b o e).1, by rw [up b (nn b (e0.bs b o e).2)]; exact (e0.bs b o e).2⟩, e0.bsz, e0.funs, fun b hb => by rw [up b (nn b (e0.frf b hb))]; exact e0.frf b hb, ok2, e0.bare⟩
      refine codeAny_mono (F.run A outer s _ args us _ Q E0 hr e1 hb rv ⟨a, ns, rfl, hl, tb_frz tb hs, .inl ⟨_, upd_same⟩, q⟩) fun r s' h => ?_
      cases r with
      | error e => exact (cx_no _ _ _ _ h).elim
      | ok fl =>
        cases fl with
        | ret u =>
          obtain ⟨v, H', os, bare, un, hok', r', q'⟩ := h
          refine ⟨v, H', os, bare, ⟨fun b o e n1 n2 n3 => un.keep b o e (by rw [up b (nn b n1)]; exact n1) n2 n3, fun b o e n1 n2 n3 => un.slot b o e (by rw [up b (nn b n1)]; exact n1) n2 n3, fun b o e n1 n2 => un.free b o e (by rw [up b (nn b n1)]; exact n1) n2, un.there,
            fun b xs e => un.tups b xs ?_, fun b o u e => un.frzs b o u ?_, fun b ps e => un.tbls b ps ?_⟩, hok', r', q'⟩
          all_goals (rw [up b (fun z => by rw [z, hs] at e; cases e)]; exact e)
        | next => exact False.elim h
        | brk => exact False.elim h
        | cont => exact False.elim h
    · exact F.run A outer s H args us _ Q E0 hr e0 hb rv ⟨a, ns, rfl, hl, tb, hs, q⟩
end
theorem tb_start {H : Hp} {cs : List (Addr × Addr)} (hT : ∀ t ∈ TB.T, ∃ p ∈ cs, p.2 = t.1) (h : ∀ p ∈ cs, H p.2 = some (.tbl #[])) : TbOk H := fun t ht => by
  obtain ⟨p, hp, e⟩ := hT t ht
  rw [← e]
  exact TabS.nil (h p hp)
theorem law_allT {l : PySem.W.OpenLaw} {w : World} {K : PySem.W.Frag} {mg : Str → Option Value} {st : Stmt} {k : Nat} {F : Fn} {x p : Str} {fa : Addr} {h : Heap} {cs : List (Addr × Addr)} (hl : LawOk F) (hfa : mg x = some (.ref fa))
    (hb : ∀ f fd, Fun K x x st f fd → ∀ (s : Shared) (v : Value), BindsTo s fd ⟨[v], []⟩ [(p, v)]) (R : Raw K mg x st) (hT : ∀ t ∈ TB.T, ∃ p ∈ cs, p.2 = t.1)
    (c1 : ∀ p ∈ cs, h.get? p.2 = some { cls := .none, data := .fields #[] }) (c2 : ∀ p ∈ cs, K.lookup p.2 = none) (c3 : ∀ p ∈ cs, PySem.W.CodeHd h p.1 p.2)
    (G : ∀ base : Heap, (∀ p ∈ cs, TabB base mg p.1 p.2) → Df l.prog w K mg base x st k [p] F 1) : LawAtS l w K (L2.CX l.prog w) k 63 p mg fa h := by
  obtain ⟨f, fd, Fu, hm⟩ := R.ex
  rw [hfa] at hm
  cases hm
  refine ⟨fd, cs, spLt K, c1, c2, c3, hb _ _ Fu, fun H a ns h1 _ h3 h4 => ⟨a, ns, rfl, h1, tb_start hT h3, h4, fun _ => rfl, rfl⟩, fun base _ _ tb => ?_⟩
  obtain ⟨f2, fd2, g, hm2, Fu2, _⟩ := (G base tb).ex
  rw [hfa] at hm2
  cases hm2
  obtain ⟨oc, od, kV, doc, pm, an, cdv, ct, osl, e1, lk, _⟩ := Fu.ex
  obtain ⟨oc2, od2, kV2, doc2, pm2, an2, cdv2, ct2, osl2, e2, lk2, _⟩ := Fu2.ex
  rw [lk] at lk2
  cases lk2
  exact lt_of (g.imp (lw_imp hl))
end MM
set_option maxRecDepth 100000
set_option maxHeartbeats 2000000
namespace MM
open PySem PySem.Spec PyProof.Rows L2
variable [TB : Tabl]
/-! ### a call that gives a new list, which is the caller's own -/
def frzC (S : Store) (k : Nat) : Option D := match S[k]? with
  | some (.lst xs) => (xs.mapM (frzD (S.set k .unset) 29)).map .lst
  | _ => none
def callN (F : Fn) (ds : List D) : Option D := if D.pures ds = true then (F ds []).bind fun y => match y.1 with
    | .loc k => frzC y.2 k
    | _ => none
  else none
def mCallN (F : Fn) (ar : Nat) (as : MA) : M := fun e S => (as e S).bind fun x => if x.1.length = ar then (callN F x.1).map fun d => (d, x.2) else none
section
variable {K : PySem.W.Frag} {mg : Str → Option Value}
/-- a cell stands behind a callee that saw none -/
theorem Holds.keep0 {H H' : Hp} {W W2 : Wd} {a : Addr} {d : D} (ha : a ∈ W.r) (hd : Holds K mg H W a d) (st2 : Step W H W2 H') (st : ∀ b o, H b = some o → (∀ ps, o ≠ .tbl ps) → (∀ y, o = .own y → ∃ u, H y = some u) → H' b = some o) : Holds K mg H' W2 a d := by
  obtain ⟨o0, ho0⟩ := hd.tr
  refine hd.keep st2 (fun o e => st a o e (hd.ntbl o e) fun y e2 => ?_) fun dx e => st dx _ e (fun _ => by simp) fun y e2 => ?_
  · subst e2
    cases hd with
    | lst h r => rw [h] at e; cases e
    | dicK h e2 r => rw [h] at e; cases e
    | dicT h e2 r => rw [h] at e; cases e
    | obj f2 hc n h h3 r => rw [h] at e; exact absurd (Option.some.inj e) slO_own
    | obj0 hc n hw h h2 => rw [h] at e; cases e
  · cases e2
    exact ⟨_, ho0⟩
theorem callN_ok {F : Fn} {H : Hp} {W : Wd} {S : Store} {vs : List V} {ds : List D} {d : D} (s : StoreOk K mg H W S) (r : Reps K mg H W vs ds) (h : callN F ds = some d) :
    ∃ W1 d1 S1', Reps K mg H W1 vs ds ∧ StoreOk K mg H W1 [] ∧ F ds [] = some (d1, S1') ∧
      ∀ v W1' H', Step W1 H W1' H' → Rep K mg H' W1' v d1 → StoreOk K mg H' W1' S1' → ∃ p, v = .ref p ∧ Step W H W H' ∧ H p = none ∧ Holds K mg H' (W.push p) p d ∧ StoreOk K mg H' (W.push p) S := by
  unfold callN at h
  split at h
  · rename_i hp
    obtain ⟨⟨d1, S1'⟩, h2, h⟩ := Option.bind_eq_some_iff.mp h
    dsimp only at h
    refine ⟨⟨[], W.r ++ W.x⟩, d1, S1', r.to (fun a f => ⟨by simp, fun z => (List.mem_append.mp z).elim f.1 f.2⟩) hp, ⟨rfl, .nil, (fun a ha => nomatch ha), fun a ha => (List.mem_append.mp ha).elim s.tr (s.xt a), fun n a d h1 h2 => (by simp at h1), s.tb⟩, h2, fun v W1' H' st rv sv => ?_⟩
    split at h
    · rename_i k
      cases rv with
      | loc hk =>
        rename_i p
        have hpr : p ∈ W1'.r := List.mem_of_getElem? hk
        have hpn : H p = none := (st.new hpr).resolve_left (by simp)
        have ex : W1'.x = W.r ++ W.x := st.x
        have keep : ∀ b o, H b = some o → (∀ ps, o ≠ .tbl ps) → (∀ y, o = .own y → ∃ u, H y = some u) → H' b = some o := fun b o e nt no => st.fr b o e (by simp) nt fun y e2 => ⟨by simp, no y e2⟩
        have st2 : Step W H W H' := ⟨rfl, ⟨[], by simp, by simp⟩, st.th, fun b o h nb nt no => keep b o h nt fun y e => (no y e).2, st.tups, st.frzs⟩
        have st3 : Step (W.push p) H (W.push p) H' := ⟨rfl, ⟨[], by simp, by simp⟩, st.th, fun b o h nb nt no => keep b o h nt fun y e => (no y e).2, st.tups, st.frzs⟩
        have np : p ∉ W.r := s.nw hpn
        unfold frzC at h
        split at h
        · rename_i xs hx
          obtain ⟨ys, h3, h4⟩ := Option.map_eq_some_iff.mp h
          subst h4
          have hh := sv.at_ k p _ hk hx
          cases hh with
          | lst q1 q2 =>
            have fz : ∀ b, Fz W1' b → Fz (W.push p) b := fun b f => by
              have f2 := f.2
              rw [ex] at f2
              exact ⟨fun z => f2 (List.mem_append_left _ z), fun z => (List.mem_cons.mp z).elim (fun e => f.1 (e ▸ hpr)) fun z => f2 (List.mem_append_right _ z)⟩
            have hc : ∀ (n : Nat) a e, W1'.r[n]? = some a → (S1'.set k .unset)[n]? = some e → e ≠ .unset → Holds K mg H' W1' a e ∧ Fz (W.push p) a := fun n a e q3 q4 q5 => by
              obtain ⟨q6, q7⟩ := hn W1' S1' k a n a e q3 q4 q5
              have f2 := sv.ap a (List.mem_of_getElem? q3)
              rw [ex] at f2
              exact ⟨sv.at_ n a e q3 q6, fun z => f2 (List.mem_append_left _ z), fun z => (List.mem_cons.mp z).elim (fun e2 => q7 (nd_ix sv.nd q3 (e2 ▸ hk))) fun z => f2 (List.mem_append_right _ z)⟩
            have all : ∀ (ds : List D) (vs : List V) (ds' : List D), Reps K mg H' W1' vs ds → ds.mapM (frzD (S1'.set k .unset) 29) = some ds' → Reps K mg H' (W.push p) vs ds' := by
              intro ds
              induction ds with
              | nil => intro vs ds' h e; cases h; simp at e; subst e; exact .nil
              | cons d ds ih2 =>
                intro vs ds' h e
                cases h with
                | cons h1 t1 =>
                  rw [List.mapM_cons] at e
                  obtain ⟨p1, e1, e⟩ := Option.bind_eq_some_iff.mp e
                  obtain ⟨p2, e2, e⟩ := Option.bind_eq_some_iff.mp e
                  cases e
                  exact .cons (frz_gen fz hc _ _ _ _ h1 e1) (ih2 _ _ t1 e2)
            refine ⟨p, rfl, st2, hpn, .lst q1 (all _ _ _ q2 h3), s.len, s.nd, fun a ha z => (List.mem_cons.mp z).elim (fun e => np (e ▸ ha)) (s.ap a ha), fun a ha => (List.mem_cons.mp ha).elim (fun e => ⟨_, e ▸ q1⟩) fun z => ?_, fun n a d h5 h6 => ?_, sv.tb⟩
            · obtain ⟨o, e⟩ := s.xt a z
              exact st.th a o e
            · exact ((s.at_ n a d h5 h6).push hpn).keep0 (W := W.push p) (List.mem_of_getElem? h5) st3 keep
        · cases h
    · cases h
  · cases h
theorem callNC_ok {F : Fn} {ar : Nat} {as : MA} {σ : L2.St} {H : Hp} {Q : VK} (h : tCr K mg (mCallN F ar as) σ H Q) : tCall (spOf K mg F ar) [] E0 (tAs K mg as) σ H Q := by
  obtain ⟨W, en, S, d, S', hE, hS, hm, q⟩ := h
  unfold mCallN at hm
  obtain ⟨⟨d1, S1⟩, h1, hm⟩ := Option.bind_eq_some_iff.mp hm
  dsimp only at hm
  split at hm
  · rename_i hl
    obtain ⟨d9, h9, hm⟩ := Option.map_eq_some_iff.mp hm
    cases hm
    refine ⟨W, en, S, d1, _, hE, hS, h1, fun vs W1 H1 st1 r1 s1 => ?_⟩
    show spOf K mg F ar (vs ++ []) H1 Q E0
    rw [List.append_nil]
    obtain ⟨W2, d2, S2', z2, z3, z4, z5⟩ := callN_ok s1 r1 h9
    refine ⟨by rw [r1.length]; exact hl, W2, [], d1, d2, S2', z2, z3, z4, fun v W' H' st r s => ?_⟩
    obtain ⟨p, rfl, y1, y2, y3, y4⟩ := z5 v W' H' st r s
    exact q p W1 H' (st1.trans y1) (st1.free y2) (s1.nw y2) (s1.nx y2) y3 y4
  · cases hm
end
section
variable {X : Cx} {k ar n : Nat} {st : Stmt} {ps ks : List Str} {ix : List Nat} {F : Fn} {x : Str} {e : Expr} {es : List Expr} {kws : List Keyword} {p pos : Pos} {as ms : MA}
theorem sd_callN (G : Df X.prog X.w X.K X.mg X.base x st k ps F ar) (hr : Room k X.A) (ha : SA X (e :: es) as) (hg : Gl X x := by rfl)
    (hdb : (x == ("__debug__" : Str)) = false := by decide) (he : starEach (e :: es) X.env = (false, eval e X.env) :: starEach es X.env := by rfl) (hpl : (backTo pos (starEach es X.env)).any (·.1) = false := by rfl) : SC X (.Call (.Name x p) (e :: es) [] pos) (mCallN F ar as) := by
  obtain ⟨f, fd, g, hm, Fu, hb⟩ := G.ex
  exact pe_imp (pe_call g hr hg hm Fu.kp hb .nil passL ha hdb he hpl) fun _ _ _ => callNC_ok
theorem sd_callN0 (G : Df X.prog X.w X.K X.mg X.base x st k ps F ar) (hr : Room k X.A) (hg : Gl X x := by rfl) (hdb : (x == ("__debug__" : Str)) = false := by decide) : SC X (.Call (.Name x p) [] [] pos) (mCallN F ar aNil) := by
  obtain ⟨f, fd, g, hm, Fu, hb⟩ := G.ex
  exact pe_imp (pe_call0 g hr hg hm Fu.kp hb .nil passL hdb) fun _ _ _ h => tAs_nil (callNC_ok h)
end
section
variable {X : Cx} {k ar : Nat} {c m q : Str} {st : Stmt} {ps : List Str} {F : Fn} {o e : Expr} {es : List Expr} {pos apos : Pos} {mo : M} {as : MA}
/-- .. of a method -/
theorem methN_ok {C : Addr} {σ : L2.St} {H : Hp} {Q : VK} (hC : X.mg c = some (.ref C)) (h : tCr X.K X.mg (mCallN F ar (aCons (mRecv c mo) as)) σ H Q) :
    SlX.tMethSl C (fun vs H Q E => spOf X.K X.mg F ar (vs ++ []) H Q E) E0 (tE X.K X.mg mo) (tAs X.K X.mg as) σ H Q := by
  obtain ⟨W, en, S, ds, S', hE, hS, hm, q⟩ := callNC_ok h
  obtain ⟨⟨d1, S1⟩, h1, hm⟩ := Option.bind_eq_some_iff.mp hm
  obtain ⟨⟨d2, S2⟩, h2, hm⟩ := Option.map_eq_some_iff.mp hm
  cases hm
  dsimp only at h2
  obtain ⟨⟨d3, S3⟩, h3, h4⟩ := Option.bind_eq_some_iff.mp h1
  dsimp only at h4
  split at h4
  · rename_i c' fs hf
    split at h4
    · rename_i hc
      subst hc
      cases h4
      refine ⟨W, en, S, d1, S1, hE, hS, h3, fun v W1 H1 st1 r1 s1 => ?_⟩
      obtain ⟨a, C', dx, os, rfl, hc', hs, rs⟩ := r1.objAt s1 hf
      rw [hC] at hc'
      cases hc'
      refine ⟨a, dx, os, rfl, hs, W1, en, S1, d2, S2, hE.mono st1, s1, h2, fun vs W2 H2 st2 r2 s2 => ?_⟩
      exact q (.ref a :: vs) W2 H2 (st1.trans st2) (.cons (r1.mono st2) r2) s2
    · cases h4
  · cases h4
theorem sd_methN0 (G : Dm X.prog X.w X.K X.mg X.base c m q st k ps F ar) (hr : Room k X.A) (ho : SE X o mo) {pl : Sem Bool}
    (ht : eval (.Call (.Attribute o m apos) [] [] pos) X.env = (do
      let ov ← eval o X.env
      standAt apos.atName
      let (f, first) ← holding [ov] (getMethod ov m pl)
      callWith pos f first (backTo pos (starEach [] X.env)) (backToKw pos (keywordEach [] X.env)))) : SC X (.Call (.Attribute o m apos) [] [] pos) (mCallN F ar (aCons (mRecv c mo) aNil)) := by
  obtain ⟨C, f, fd, hC, hk, hm, g, Fu, hb⟩ := G.ex
  refine pe_imp (SlX.pe_methSl0 (pl := pl) ho hk hm (g.raw hb .nil) hr passL ht) fun σ H Q h => ?_
  have h2 := methN_ok hC h
  obtain ⟨W, en, S, d, S', hE, hS, hm', q⟩ := h2
  exact ⟨W, en, S, d, S', hE, hS, hm', fun v W' H' st r s => let ⟨a, dx, vs, e1, e2, e3⟩ := q v W' H' st r s; ⟨a, dx, vs, e1, e2, tAs_nil e3⟩⟩
theorem sd_methN (G : Dm X.prog X.w X.K X.mg X.base c m q st k ps F ar) (hr : Room k X.A) (ho : SE X o mo) (ha : SA X (e :: es) as) {pl : Sem Bool}
    (ht : eval (.Call (.Attribute o m apos) (e :: es) [] pos) X.env = (do
      let ov ← eval o X.env
      standAt apos.atName
      let (f, first) ← holding [ov] (getMethod ov m pl)
      callWith pos f first (backTo pos (starEach (e :: es) X.env)) (backToKw pos (keywordEach [] X.env))))
    (hst : starEach (e :: es) X.env = (false, eval e X.env) :: starEach es X.env := by rfl) (hpl : (backTo pos (starEach es X.env)).any (·.1) = false := by rfl) : SC X (.Call (.Attribute o m apos) (e :: es) [] pos) (mCallN F ar (aCons (mRecv c mo) as)) := by
  obtain ⟨C, f, fd, hC, hk, hm, g, Fu, hb⟩ := G.ex
  exact pe_imp (SlX.pe_methSl (pl := pl) ho hk hm (g.raw hb .nil) hr passL ha hst hpl ht) fun σ H Q h => methN_ok hC h
end
end MM
set_option maxRecDepth 100000
set_option maxHeartbeats 1000000
namespace MM
open PySem PySem.Spec PyProof.Rows L2
def tab0 : Tabl := ⟨[], by simp⟩
local instance tab_Mm16 : Tabl := tab0
/-! ### the plain side: what a mirror answers -/
def wE (m : M) (e : MEnv) (S : Store) (Q : D → Store → Prop) : Prop := ∃ d S', m e S = some (d, S') ∧ Q d S'
def wA (m : MA) (e : MEnv) (S : Store) (Q : List D → Store → Prop) : Prop := ∃ d S', m e S = some (d, S') ∧ Q d S'
def wT (m : MT) (e : MEnv) (S : Store) (Q : Bool → Store → Prop) : Prop := ∃ d S', m e S = some (d, S') ∧ Q d S'
def wO (m : MO) (e : MEnv) (S : Store) (Q : Option Int → Store → Prop) : Prop := ∃ d S', m e S = some (d, S') ∧ Q d S'
def wI (m : MI) (e : MEnv) (S : Store) (Q : Its → Store → Prop) : Prop := ∃ d S', m e S = some (d, S') ∧ Q d S'
def wS (m : MS) (e : MEnv) (S : Store) (Q : Fl → MEnv → Store → Prop) : Prop := ∃ f e' S', m e S = some (f, e', S') ∧ Q f e' S'
def wF (F : Fn) (ds : List D) (S : Store) (Q : D → Store → Prop) : Prop := ∃ d S', F ds S = some (d, S') ∧ Q d S'
section
variable {e : MEnv} {S : Store} {Q R : D → Store → Prop} {T : Bool → Store → Prop} {U : List D → Store → Prop} {O : Option Int → Store → Prop} {B : Fl → MEnv → Store → Prop} {I : Its → Store → Prop} {a b c : M} {t u : MT} {as : MA} {p q : MS}
theorem wE.mono (h : wE a e S Q) (i : ∀ d S', Q d S' → R d S') : wE a e S R := let ⟨d, S', x, y⟩ := h; ⟨d, S', x, i _ _ y⟩
theorem wS.mono {B' : Fl → MEnv → Store → Prop} (h : wS p e S B) (i : ∀ f e' S', B f e' S' → B' f e' S') : wS p e S B' := let ⟨f, e', S', x, y⟩ := h; ⟨f, e', S', x, i _ _ _ y⟩
theorem wF.mono {F : Fn} {ds : List D} (h : wF F ds S Q) (i : ∀ d S', Q d S' → R d S') : wF F ds S R := let ⟨d, S', x, y⟩ := h; ⟨d, S', x, i _ _ y⟩
@[simp] theorem wE_var {i : Nat} : wE (mVar i) e S Q ↔ ∃ d, e[i]? = some (some d) ∧ Q d S := by
  unfold wE mVar
  constructor
  · rintro ⟨d, S', h, q⟩
    split at h
    · rename_i d1 h1
      cases h
      exact ⟨_, h1, q⟩
    · cases h
  · rintro ⟨d, h, q⟩
    exact ⟨d, S, by rw [h], q⟩
@[simp] theorem wE_c {d : D} : wE (mC d) e S Q ↔ Q d S := ⟨fun ⟨_, _, h, q⟩ => by cases h; exact q, fun q => ⟨_, _, rfl, q⟩⟩
@[simp] theorem wE_new : wE (mNew a) e S Q ↔ wE a e S fun d S' => Q (.loc S'.length) (S' ++ [d]) := by
  constructor
  · rintro ⟨d, S', h, q⟩
    obtain ⟨⟨d1, S1⟩, h1, h2⟩ := Option.bind_eq_some_iff.mp h
    cases h2
    exact ⟨_, _, h1, q⟩
  · rintro ⟨d, S', h, q⟩
    exact ⟨_, _, by unfold mNew; rw [h]; rfl, q⟩
@[simp] theorem wE_m1 {f : F1} : wE (m1 f a) e S Q ↔ wE a e S fun x S1 => ∃ d, f S1 x = some d ∧ Q d S1 := by
  constructor
  · rintro ⟨d, S', h, q⟩
    obtain ⟨d1, h1, h2⟩ := m1_eq h
    exact ⟨_, _, h1, _, h2, q⟩
  · rintro ⟨d, S', h, d2, h2, q⟩
    exact ⟨_, _, by unfold m1; rw [h]; show (f S' d).map _ = _; rw [h2]; rfl, q⟩
@[simp] theorem wE_m2 {f : F2} : wE (m2 f a b) e S Q ↔ wE a e S fun x S1 => wE b e S1 fun y S2 => ∃ d, f S2 x y = some d ∧ Q d S2 := by
  constructor
  · rintro ⟨d, S', h, q⟩
    obtain ⟨d1, S1, d2, h1, h2, h3⟩ := m2_eq h
    exact ⟨_, _, h1, _, _, h2, _, h3, q⟩
  · rintro ⟨d, S', h, d2, S2, h2, d3, h3, q⟩
    exact ⟨_, _, by unfold m2; rw [h]; show (b e S').bind _ = _; rw [h2]; show (f S2 d d2).map _ = _; rw [h3]; rfl, q⟩
@[simp] theorem wE_ch {f g : F2} : wE (mCh f g a b c) e S Q ↔ wE a e S fun x S1 => wE b e S1 fun y S2 => ∃ k, f S2 x y = some (.bl k) ∧ if k = true then wE c e S2 fun z S3 => ∃ d, g S3 y z = some d ∧ Q d S3 else Q (.bl false) S2 := by
  constructor
  · rintro ⟨d, S', h, q⟩
    unfold mCh at h
    obtain ⟨⟨d1, S1⟩, h1, h⟩ := Option.bind_eq_some_iff.mp h
    obtain ⟨⟨d2, S2⟩, h2, h⟩ := Option.bind_eq_some_iff.mp h
    refine ⟨_, _, h1, _, _, h2, ?_⟩
    dsimp only at h
    split at h
    · rename_i h3
      obtain ⟨⟨d3, S3⟩, h4, h⟩ := Option.bind_eq_some_iff.mp h
      obtain ⟨d5, h5, h⟩ := Option.map_eq_some_iff.mp h
      cases h
      exact ⟨true, h3, by rw [if_pos rfl]; exact ⟨_, _, h4, _, h5, q⟩⟩
    · rename_i h3
      cases h
      exact ⟨false, h3, by rw [if_neg (by simp)]; exact q⟩
    · cases h
  · rintro ⟨d, S', h, d2, S2, h2, k, h3, q⟩
    cases k with
    | true =>
      rw [if_pos rfl] at q
      obtain ⟨d4, S4, h4, d5, h5, q⟩ := q
      exact ⟨d5, S4, by unfold mCh; rw [h]; show (b e S').bind _ = _; rw [h2]; dsimp only [Option.bind]; rw [h3]; dsimp only; rw [h4]; dsimp only; rw [h5]; rfl, q⟩
    | false =>
      rw [if_neg (by simp)] at q
      exact ⟨_, _, by unfold mCh; rw [h]; show (b e S').bind _ = _; rw [h2]; dsimp only [Option.bind]; rw [h3], q⟩
@[simp] theorem wE_and : wE (mAnd a b) e S Q ↔ wE a e S fun x S1 => ∃ k, truD S1 x = some k ∧ if k = true then wE b e S1 Q else Q x S1 := by
  constructor
  · rintro ⟨d, S', h, q⟩
    obtain ⟨⟨d1, S1⟩, h1, h⟩ := Option.bind_eq_some_iff.mp h
    obtain ⟨k, h2, h⟩ := Option.bind_eq_some_iff.mp h
    refine ⟨_, _, h1, k, h2, ?_⟩
    cases k
    · cases h; exact q
    · exact ⟨_, _, h, q⟩
  · rintro ⟨d, S', h, k, h2, q⟩
    cases k
    · exact ⟨_, _, by unfold mAnd; rw [h]; show (truD S' d).bind _ = _; rw [h2]; rfl, q⟩
    · obtain ⟨d3, S3, h3, q⟩ := q
      exact ⟨_, _, by unfold mAnd; rw [h]; show (truD S' d).bind _ = _; rw [h2]; exact h3, q⟩
@[simp] theorem wE_or : wE (mOr a b) e S Q ↔ wE a e S fun x S1 => ∃ k, truD S1 x = some k ∧ if k = true then Q x S1 else wE b e S1 Q := by
  constructor
  · rintro ⟨d, S', h, q⟩
    obtain ⟨⟨d1, S1⟩, h1, h⟩ := Option.bind_eq_some_iff.mp h
    obtain ⟨k, h2, h⟩ := Option.bind_eq_some_iff.mp h
    refine ⟨_, _, h1, k, h2, ?_⟩
    cases k
    · exact ⟨_, _, h, q⟩
    · cases h; exact q
  · rintro ⟨d, S', h, k, h2, q⟩
    cases k
    · obtain ⟨d3, S3, h3, q⟩ := q
      exact ⟨_, _, by unfold mOr; rw [h]; show (truD S' d).bind _ = _; rw [h2]; exact h3, q⟩
    · exact ⟨_, _, by unfold mOr; rw [h]; show (truD S' d).bind _ = _; rw [h2]; rfl, q⟩
@[simp] theorem wE_not : wE (mNot a) e S Q ↔ wE a e S fun x S1 => ∃ k, truD S1 x = some k ∧ Q (.bl (!k)) S1 := by
  constructor
  · rintro ⟨d, S', h, q⟩
    obtain ⟨⟨d1, S1⟩, h1, h⟩ := Option.bind_eq_some_iff.mp h
    obtain ⟨k, h2, h⟩ := Option.map_eq_some_iff.mp h
    cases h
    exact ⟨_, _, h1, k, h2, q⟩
  · rintro ⟨d, S', h, k, h2, q⟩
    exact ⟨_, _, by unfold mNot; rw [h]; show (truD S' d).map _ = _; rw [h2]; rfl, q⟩
@[simp] theorem wE_if : wE (mIf t a b) e S Q ↔ wT t e S fun k S1 => if k = true then wE a e S1 Q else wE b e S1 Q := by
  constructor
  · rintro ⟨d, S', h, q⟩
    obtain ⟨⟨k, S1⟩, h1, h⟩ := Option.bind_eq_some_iff.mp h
    refine ⟨_, _, h1, ?_⟩
    cases k <;> exact ⟨_, _, h, q⟩
  · rintro ⟨k, S', h, q⟩
    cases k <;> (obtain ⟨d3, S3, h3, q⟩ := q; exact ⟨_, _, by unfold mIf; rw [h]; exact h3, q⟩)
@[simp] theorem wT_b1 : wT (tB1 a) e S T ↔ wE a e S fun x S1 => ∃ k, x = .bl k ∧ T k S1 := by
  constructor
  · rintro ⟨d, S', h, q⟩
    obtain ⟨⟨x, S1⟩, h1, h⟩ := Option.bind_eq_some_iff.mp h
    dsimp only at h
    split at h
    · cases h; exact ⟨_, _, h1, _, rfl, q⟩
    · cases h
  · rintro ⟨x, S', h, k, rfl, q⟩
    exact ⟨_, _, by unfold tB1; rw [h]; rfl, q⟩
@[simp] theorem wT_tr : wT (tTr a) e S T ↔ wE a e S fun x S1 => ∃ k, truD S1 x = some k ∧ T k S1 := by
  constructor
  · rintro ⟨d, S', h, q⟩
    obtain ⟨⟨x, S1⟩, h1, h⟩ := Option.bind_eq_some_iff.mp h
    obtain ⟨k, h2, h⟩ := Option.map_eq_some_iff.mp h
    cases h
    exact ⟨_, _, h1, _, h2, q⟩
  · rintro ⟨x, S', h, k, h2, q⟩
    exact ⟨_, _, by unfold tTr; rw [h]; show (truD S' x).map _ = _; rw [h2]; rfl, q⟩
@[simp] theorem wT_an : wT (tAn t u) e S T ↔ wT t e S fun k S1 => if k = true then wT u e S1 T else T false S1 := by
  constructor
  · rintro ⟨d, S', h, q⟩
    obtain ⟨⟨k, S1⟩, h1, h⟩ := Option.bind_eq_some_iff.mp h
    refine ⟨_, _, h1, ?_⟩
    cases k
    · cases h; exact q
    · exact ⟨_, _, h, q⟩
  · rintro ⟨k, S', h, q⟩
    cases k
    · exact ⟨_, _, by unfold tAn; rw [h]; rfl, q⟩
    · obtain ⟨d3, S3, h3, q⟩ := q; exact ⟨_, _, by unfold tAn; rw [h]; exact h3, q⟩
@[simp] theorem wT_or : wT (tOr' t u) e S T ↔ wT t e S fun k S1 => if k = true then T true S1 else wT u e S1 T := by
  constructor
  · rintro ⟨d, S', h, q⟩
    obtain ⟨⟨k, S1⟩, h1, h⟩ := Option.bind_eq_some_iff.mp h
    refine ⟨_, _, h1, ?_⟩
    cases k
    · exact ⟨_, _, h, q⟩
    · cases h; exact q
  · rintro ⟨k, S', h, q⟩
    cases k
    · obtain ⟨d3, S3, h3, q⟩ := q; exact ⟨_, _, by unfold tOr'; rw [h]; exact h3, q⟩
    · exact ⟨_, _, by unfold tOr'; rw [h]; rfl, q⟩
@[simp] theorem wT_no : wT (tNo t) e S T ↔ wT t e S fun k S1 => T (!k) S1 := by
  constructor
  · rintro ⟨d, S', h, q⟩
    obtain ⟨⟨k, S1⟩, h1, h⟩ := Option.map_eq_some_iff.mp h
    cases h
    exact ⟨_, _, h1, q⟩
  · rintro ⟨k, S', h, q⟩
    exact ⟨_, _, by unfold tNo; rw [h]; rfl, q⟩
@[simp] theorem wT_true : wT tTrue e S T ↔ T true S := ⟨fun ⟨_, _, h, q⟩ => by cases h; exact q, fun q => ⟨_, _, rfl, q⟩⟩
@[simp] theorem wA_nil : wA aNil e S U ↔ U [] S := ⟨fun ⟨_, _, h, q⟩ => by cases h; exact q, fun q => ⟨_, _, rfl, q⟩⟩
@[simp] theorem wA_cons : wA (aCons a as) e S U ↔ wE a e S fun x S1 => wA as e S1 fun xs S2 => U (x :: xs) S2 := by
  constructor
  · rintro ⟨d, S', h, q⟩
    obtain ⟨⟨x, S1⟩, h1, h⟩ := Option.bind_eq_some_iff.mp h
    obtain ⟨⟨xs, S2⟩, h2, h⟩ := Option.map_eq_some_iff.mp h
    cases h
    exact ⟨_, _, h1, _, _, h2, q⟩
  · rintro ⟨d, S', h, d2, S2, h2, q⟩
    exact ⟨_, _, by unfold aCons; rw [h]; show (as e S').map _ = _; rw [h2]; rfl, q⟩
@[simp] theorem wE_tup : wE (mTup as) e S Q ↔ wA as e S fun xs S1 => xs.length ≤ 4000 ∧ Q (.tup xs) S1 := by
  constructor
  · rintro ⟨d, S', h, q⟩
    obtain ⟨⟨x, S1⟩, h1, h⟩ := Option.bind_eq_some_iff.mp h
    dsimp only at h
    split at h
    · rename_i hl; cases h; exact ⟨_, _, h1, hl, q⟩
    · cases h
  · rintro ⟨d, S', h, hl, q⟩
    exact ⟨_, _, by unfold mTup; rw [h]; show (if d.length ≤ 4000 then _ else _) = _; rw [if_pos hl], q⟩
@[simp] theorem wE_lst : wE (mLst as) e S Q ↔ wA as e S fun xs S1 => xs.length ≤ 4000 ∧ Q (.lst xs) S1 := by
  constructor
  · rintro ⟨d, S', h, q⟩
    obtain ⟨⟨x, S1⟩, h1, h⟩ := Option.bind_eq_some_iff.mp h
    dsimp only at h
    split at h
    · rename_i hl; cases h; exact ⟨_, _, h1, hl, q⟩
    · cases h
  · rintro ⟨d, S', h, hl, q⟩
    exact ⟨_, _, by unfold mLst; rw [h]; show (if d.length ≤ 4000 then _ else _) = _; rw [if_pos hl], q⟩
@[simp] theorem wO_no : wO oNo e S O ↔ O none S := ⟨fun ⟨_, _, h, q⟩ => by cases h; exact q, fun q => ⟨_, _, rfl, q⟩⟩
@[simp] theorem wO_so : wO (oSo a) e S O ↔ wE a e S fun x S1 => ∃ i, x = .int i ∧ O (some i) S1 := by
  constructor
  · rintro ⟨d, S', h, q⟩
    obtain ⟨⟨x, S1⟩, h1, h⟩ := Option.bind_eq_some_iff.mp h
    dsimp only at h
    split at h
    · cases h; exact ⟨_, _, h1, _, rfl, q⟩
    · cases h
  · rintro ⟨x, S', h, k, rfl, q⟩
    exact ⟨_, _, by unfold oSo; rw [h]; rfl, q⟩
@[simp] theorem wE_sl {f : F3} {lo hi : MO} : wE (mSl f a lo hi) e S Q ↔ wE a e S fun x S1 => wO lo e S1 fun i S2 => wO hi e S2 fun j S3 => ∃ d, f S3 x i j = some d ∧ Q d S3 := by
  constructor
  · rintro ⟨d, S', h, q⟩
    obtain ⟨⟨x, S1⟩, h1, h⟩ := Option.bind_eq_some_iff.mp h
    obtain ⟨⟨i, S2⟩, h2, h⟩ := Option.bind_eq_some_iff.mp h
    obtain ⟨⟨j, S3⟩, h3, h⟩ := Option.bind_eq_some_iff.mp h
    obtain ⟨d4, h4, h⟩ := Option.map_eq_some_iff.mp h
    cases h
    exact ⟨_, _, h1, _, _, h2, _, _, h3, _, h4, q⟩
  · rintro ⟨d, S', h, d2, S2, h2, d3, S3, h3, d4, h4, q⟩
    exact ⟨_, _, by unfold mSl; rw [h]; show (lo e S').bind _ = _; rw [h2]; show (hi e S2).bind _ = _; rw [h3]; show (f S3 d d2 d3).map _ = _; rw [h4]; rfl, q⟩
@[simp] theorem wE_app : wE (mApp a b) e S Q ↔ wE a e S fun x S1 => wE b e S1 fun y S2 => ∃ n xs0 xs, x = .loc n ∧ S1[n]? = some (.lst xs0) ∧ S2[n]? = some (.lst xs) ∧ xs.length < 4000 ∧ Q .non (S2.set n (.lst (xs ++ [y]))) := by
  constructor
  · rintro ⟨d, S', h, q⟩
    obtain ⟨⟨x, S1⟩, h1, h⟩ := Option.bind_eq_some_iff.mp h
    obtain ⟨⟨y, S2⟩, h2, h⟩ := Option.bind_eq_some_iff.mp h
    obtain ⟨n, h3, h⟩ := Option.bind_eq_some_iff.mp h
    obtain ⟨xs0, h4, h⟩ := Option.bind_eq_some_iff.mp h
    obtain ⟨xs, h5, h⟩ := Option.bind_eq_some_iff.mp h
    dsimp only at h h3 h4 h5
    split at h
    · rename_i hl
      cases h
      unfold locD at h3
      split at h3
      · cases h3
        unfold cellL at h4 h5
        split at h4
        · split at h5
          · rename_i z1 _ _ z2
            cases h4; cases h5
            exact ⟨_, _, h1, _, _, h2, _, _, _, rfl, z1, z2, hl, q⟩
          · cases h5
        · cases h4
      · cases h3
    · cases h
  · rintro ⟨d, S', h, d2, S2, h2, n, xs0, xs, rfl, h3, h4, h5, q⟩
    refine ⟨_, _, ?_, q⟩
    unfold mApp
    rw [h]; show (b e S').bind _ = _; rw [h2]
    show (cellL S' n).bind _ = _
    unfold cellL
    rw [h3]; dsimp only [Option.bind]; rw [h4]; dsimp only; rw [if_pos h5]
/-! statements -/
@[simp] theorem wS_nil : wS sNil e S B ↔ B .nx e S := ⟨fun ⟨_, _, _, h, q⟩ => by cases h; exact q, fun q => ⟨_, _, _, rfl, q⟩⟩
@[simp] theorem wS_retn : wS sRetN e S B ↔ B (.rt .non) e S := ⟨fun ⟨_, _, _, h, q⟩ => by cases h; exact q, fun q => ⟨_, _, _, rfl, q⟩⟩
@[simp] theorem wS_brk : wS sBrk e S B ↔ B .bk e S := ⟨fun ⟨_, _, _, h, q⟩ => by cases h; exact q, fun q => ⟨_, _, _, rfl, q⟩⟩
@[simp] theorem wS_cnt : wS sCnt e S B ↔ B .ct e S := ⟨fun ⟨_, _, _, h, q⟩ => by cases h; exact q, fun q => ⟨_, _, _, rfl, q⟩⟩
/-- what comes after: on goes the next one, else the end -/
def thenS (q : MS) (B : Fl → MEnv → Store → Prop) : Fl → MEnv → Store → Prop := fun f e S => match f with
  | .nx => wS q e S B
  | f => B f e S
@[simp] theorem thenS_nx : thenS q B .nx e S ↔ wS q e S B := Iff.rfl
@[simp] theorem thenS_rt {d : D} : thenS q B (.rt d) e S ↔ B (.rt d) e S := Iff.rfl
@[simp] theorem thenS_bk : thenS q B .bk e S ↔ B .bk e S := Iff.rfl
@[simp] theorem thenS_ct : thenS q B .ct e S ↔ B .ct e S := Iff.rfl
@[simp] theorem wS_seq : wS (sSeq p q) e S B ↔ wS p e S (thenS q B) := by
  constructor
  · rintro ⟨f, e', S', h, k⟩
    obtain ⟨⟨f1, e1, S1⟩, h1, h⟩ := Option.bind_eq_some_iff.mp h
    refine ⟨_, _, _, h1, ?_⟩
    cases f1 with
    | nx => exact ⟨_, _, _, h, k⟩
    | rt d => cases h; exact k
    | bk => cases h; exact k
    | ct => cases h; exact k
  · rintro ⟨f, e', S', h, k⟩
    cases f with
    | nx => obtain ⟨f2, e2, S2, h2, k⟩ := k; exact ⟨_, _, _, by unfold sSeq; rw [h]; exact h2, k⟩
    | rt d => exact ⟨_, _, _, by unfold sSeq; rw [h]; rfl, k⟩
    | bk => exact ⟨_, _, _, by unfold sSeq; rw [h]; rfl, k⟩
    | ct => exact ⟨_, _, _, by unfold sSeq; rw [h]; rfl, k⟩
@[simp] theorem wS_set {i : Nat} : wS (sSet i a) e S B ↔ wE a e S fun x S1 => B .nx (e.set i (some x)) S1 := by
  constructor
  · rintro ⟨f, e', S', h, k⟩
    obtain ⟨⟨x, S1⟩, h1, h⟩ := Option.map_eq_some_iff.mp h
    cases h
    exact ⟨_, _, h1, k⟩
  · rintro ⟨x, S', h, k⟩
    exact ⟨_, _, _, by unfold sSet; rw [h]; rfl, k⟩
@[simp] theorem wS_expr : wS (sExpr a) e S B ↔ wE a e S fun x S1 => B .nx e S1 := by
  constructor
  · rintro ⟨f, e', S', h, k⟩
    obtain ⟨⟨x, S1⟩, h1, h⟩ := Option.map_eq_some_iff.mp h
    cases h
    exact ⟨_, _, h1, k⟩
  · rintro ⟨x, S', h, k⟩
    exact ⟨_, _, _, by unfold sExpr; rw [h]; rfl, k⟩
@[simp] theorem wS_ret : wS (sRet a) e S B ↔ wE a e S fun x S1 => B (.rt x) e S1 := by
  constructor
  · rintro ⟨f, e', S', h, k⟩
    obtain ⟨⟨x, S1⟩, h1, h⟩ := Option.map_eq_some_iff.mp h
    cases h
    exact ⟨_, _, h1, k⟩
  · rintro ⟨x, S', h, k⟩
    exact ⟨_, _, _, by unfold sRet; rw [h]; rfl, k⟩
@[simp] theorem wS_if : wS (sIf t p q) e S B ↔ wT t e S fun k S1 => if k = true then wS p e S1 B else wS q e S1 B := by
  constructor
  · rintro ⟨f, e', S', h, k⟩
    obtain ⟨⟨x, S1⟩, h1, h⟩ := Option.bind_eq_some_iff.mp h
    refine ⟨_, _, h1, ?_⟩
    cases x <;> exact ⟨_, _, _, h, k⟩
  · rintro ⟨x, S', h, k⟩
    cases x <;> (obtain ⟨f3, e3, S3, h3, k⟩ := k; exact ⟨_, _, _, by unfold sIf; rw [h]; exact h3, k⟩)
@[simp] theorem wS_asg {g : PTg} : wS (sAsg a g) e S B ↔ wE a e S fun x S1 => ∃ e', g x e = some e' ∧ B .nx e' S1 := by
  constructor
  · rintro ⟨f, e', S', h, k⟩
    obtain ⟨⟨x, S1⟩, h1, h⟩ := Option.bind_eq_some_iff.mp h
    obtain ⟨e1, h2, h⟩ := Option.map_eq_some_iff.mp h
    cases h
    exact ⟨_, _, h1, _, h2, k⟩
  · rintro ⟨x, S', h, e1, h2, k⟩
    exact ⟨_, _, _, by unfold sAsg; rw [h]; show (g x e).map _ = _; rw [h2]; rfl, k⟩
@[simp] theorem wS_par {g : PTs} : wS (sPar as g) e S B ↔ wA as e S fun x S1 => ∃ e', g x e = some e' ∧ B .nx e' S1 := by
  constructor
  · rintro ⟨f, e', S', h, k⟩
    obtain ⟨⟨x, S1⟩, h1, h⟩ := Option.bind_eq_some_iff.mp h
    obtain ⟨e1, h2, h⟩ := Option.map_eq_some_iff.mp h
    cases h
    exact ⟨_, _, h1, _, h2, k⟩
  · rintro ⟨x, S', h, e1, h2, k⟩
    exact ⟨_, _, _, by unfold sPar; rw [h]; show (g x e).map _ = _; rw [h2]; rfl, k⟩
@[simp] theorem wS_sub : wS (sSub a b c) e S B ↔ wE a e S fun x S1 => wE b e S1 fun y S2 => wE c e S2 fun z S3 => ∃ n k xs j, y = .loc n ∧ z = .int k ∧ S3[n]? = some (.lst xs) ∧ ixN xs.length k = some j ∧ B .nx e (S3.set n (.lst (xs.set j x))) := by
  constructor
  · rintro ⟨f, e', S', h, k⟩
    obtain ⟨⟨x, S1⟩, h1, h⟩ := Option.bind_eq_some_iff.mp h
    obtain ⟨⟨y, S2⟩, h2, h⟩ := Option.bind_eq_some_iff.mp h
    obtain ⟨⟨z, S3⟩, h3, h⟩ := Option.bind_eq_some_iff.mp h
    obtain ⟨n, h4, h⟩ := Option.bind_eq_some_iff.mp h
    obtain ⟨i, h5, h⟩ := Option.bind_eq_some_iff.mp h
    obtain ⟨xs, h6, h⟩ := Option.bind_eq_some_iff.mp h
    obtain ⟨j, h7, h⟩ := Option.map_eq_some_iff.mp h
    cases h
    refine ⟨_, _, h1, _, _, h2, _, _, h3, n, i, xs, j, ?_, ?_, ?_, h7, k⟩
    · cases y <;> first | (cases h4; rfl) | cases h4
    · cases z <;> first | (cases h5; rfl) | cases h5
    · unfold cellL at h6; split at h6
      · rename_i z; cases h6; exact z
      · cases h6
  · rintro ⟨x, S1, h1, y, S2, h2, z, S3, h3, n, i, xs, j, rfl, rfl, h6, h7, k⟩
    refine ⟨_, _, _, ?_, k⟩
    unfold sSub
    rw [h1]; show (b e S1).bind _ = _; rw [h2]; show (c e S2).bind _ = _; rw [h3]
    show (cellL S3 n).bind _ = _
    unfold cellL
    rw [h6]; show (ixN xs.length i).map _ = _; rw [h7]; rfl
/-- what a def's end makes of the body's end -/
def endF (Q : D → Store → Prop) : Fl → MEnv → Store → Prop := fun f _ S => match f with
  | .rt d => Q d S
  | .nx => Q .non S
  | _ => False
@[simp] theorem endF_rt {d : D} : endF Q (.rt d) e S ↔ Q d S := Iff.rfl
@[simp] theorem endF_nx : endF Q .nx e S ↔ Q .non S := Iff.rfl
theorem wF_fn {n : Nat} {ds : List D} : wF (fnM n p) ds S Q ↔ wS p (startE n ds) S (endF Q) := by
  constructor
  · rintro ⟨d, S', h, k⟩
    unfold fnM at h
    split at h
    · rename_i h1; cases h; exact ⟨_, _, _, h1, k⟩
    · rename_i h1; cases h; exact ⟨_, _, _, h1, k⟩
    · cases h
  · rintro ⟨f, e', S', h, k⟩
    cases f with
    | nx => exact ⟨_, _, by unfold fnM; rw [h], k⟩
    | rt d => exact ⟨_, _, by unfold fnM; rw [h], k⟩
    | bk => exact k.elim
    | ct => exact k.elim
/-! calls -/
@[simp] theorem wE_call {F : Fn} {ar : Nat} : wE (mCall F ar as) e S Q ↔ wA as e S fun ds S1 => ds.length = ar ∧ wF F ds S1 Q := by
  constructor
  · rintro ⟨d, S', h, k⟩
    obtain ⟨⟨x, S1⟩, h1, h⟩ := Option.bind_eq_some_iff.mp h
    dsimp only at h
    split at h
    · rename_i hl; exact ⟨_, _, h1, hl, _, _, h, k⟩
    · cases h
  · rintro ⟨ds, S1, h1, hl, d, S2, h2, k⟩
    exact ⟨_, _, by unfold mCall; rw [h1]; show (if ds.length = ar then _ else _) = _; rw [if_pos hl]; exact h2, k⟩
def wC (bx : Bool) (F : Fn) (ds : List D) (S : Store) (Q : D → Store → Prop) : Prop := ∃ d S', callI bx F S ds = some (d, S') ∧ Q d S'
@[simp] theorem wE_callR {bx : Bool} {F : Fn} {ar : Nat} : wE (mCallR bx F ar as) e S Q ↔ wA as e S fun ds S1 => ds.length = ar ∧ wC bx F ds S1 Q := by
  constructor
  · rintro ⟨d, S', h, k⟩
    obtain ⟨⟨x, S1⟩, h1, h⟩ := Option.bind_eq_some_iff.mp h
    dsimp only at h
    split at h
    · rename_i hl; exact ⟨_, _, h1, hl, _, _, h, k⟩
    · cases h
  · rintro ⟨ds, S1, h1, hl, d, S2, h2, k⟩
    exact ⟨_, _, by unfold mCallR; rw [h1]; show (if ds.length = ar then _ else _) = _; rw [if_pos hl]; exact h2, k⟩
@[simp] theorem wA_pick {n m : Nat} {ix : List Nat} {ks : MA} : wA (aPick n m ix as ks) e S U ↔ wA as e S fun xs S1 => wA ks e S1 fun ys S2 => (xs.length = n ∧ ys.length = m) ∧ U (pick ix (xs ++ ys)) S2 := by
  constructor
  · rintro ⟨d, S', h, k⟩
    obtain ⟨⟨x, S1⟩, h1, h⟩ := Option.bind_eq_some_iff.mp h
    obtain ⟨⟨y, S2⟩, h2, h⟩ := Option.bind_eq_some_iff.mp h
    dsimp only at h
    split at h
    · rename_i hl; cases h; exact ⟨_, _, h1, _, _, h2, hl, k⟩
    · cases h
  · rintro ⟨x, S1, h1, y, S2, h2, hl, k⟩
    exact ⟨_, _, by unfold aPick; rw [h1]; show (ks e S1).bind _ = _; rw [h2]; show (if x.length = n ∧ y.length = m then _ else _) = _; rw [if_pos hl], k⟩
/-! what is gone through -/
@[simp] theorem wI_seq : wI (iSeq a) e S I ↔ wE a e S fun x S1 => ∃ J, itsOf S1 x = some J ∧ I J S1 := by
  constructor
  · rintro ⟨d, S', h, k⟩
    obtain ⟨⟨x, S1⟩, h1, h⟩ := Option.bind_eq_some_iff.mp h
    obtain ⟨J, h2, h⟩ := Option.map_eq_some_iff.mp h
    cases h
    exact ⟨_, _, h1, _, h2, k⟩
  · rintro ⟨x, S1, h1, J, h2, k⟩
    exact ⟨_, _, by unfold iSeq; rw [h1]; show (itsOf S1 x).map _ = _; rw [h2]; rfl, k⟩
@[simp] theorem wI_zip : wI (iZip2 a b) e S I ↔ wE a e S fun x S1 => wE b e S1 fun y S2 => ∃ J, zipIt S2 x y = some J ∧ I J S2 := by
  constructor
  · rintro ⟨d, S', h, k⟩
    obtain ⟨⟨x, S1⟩, h1, h⟩ := Option.bind_eq_some_iff.mp h
    obtain ⟨⟨y, S2⟩, h2, h⟩ := Option.bind_eq_some_iff.mp h
    obtain ⟨J, h3, h⟩ := Option.map_eq_some_iff.mp h
    cases h
    exact ⟨_, _, h1, _, _, h2, _, h3, k⟩
  · rintro ⟨x, S1, h1, y, S2, h2, J, h3, k⟩
    exact ⟨_, _, by unfold iZip2; rw [h1]; show (b e S1).bind _ = _; rw [h2]; show (zipIt S2 x y).map _ = _; rw [h3]; rfl, k⟩
def noStr : D → Bool
  | .tup _ => false
  | .str _ => false
  | _ => true
@[simp] theorem wI_enm : wI (iEnm a) e S I ↔ wE a e S fun x S1 => noStr x = true ∧ ∃ J, itsOf S1 x = some J ∧ I ⟨pairsI 0 J.items, J.dep⟩ S1 := by
  constructor
  · rintro ⟨d, S', h, k⟩
    obtain ⟨⟨x, S1⟩, h1, h⟩ := Option.bind_eq_some_iff.mp h
    dsimp only at h
    split at h
    · cases h
    · cases h
    · obtain ⟨J, h2, h⟩ := Option.map_eq_some_iff.mp h
      cases h
      refine ⟨_, _, h1, ?_, _, h2, k⟩
      cases x <;> simp_all [noStr]
  · rintro ⟨x, S1, h1, hn, J, h2, k⟩
    refine ⟨_, _, ?_, k⟩
    unfold iEnm
    rw [h1]
    cases x <;> first | (cases hn; done) | (simp [h2])
@[simp] theorem wI_rg1 : wI (iRg1 a) e S I ↔ wE a e S fun x S1 => ∃ j, x = .int j ∧ (-1000000 ≤ j ∧ j ≤ 1000000) ∧ I ⟨rngD 0 j.toNat, []⟩ S1 := by
  constructor
  · rintro ⟨d, S', h, k⟩
    obtain ⟨⟨x, S1⟩, h1, h⟩ := Option.bind_eq_some_iff.mp h
    dsimp only at h
    split at h
    · split at h
      · rename_i hl; cases h; exact ⟨_, _, h1, _, rfl, hl, k⟩
      · cases h
    · cases h
  · rintro ⟨x, S1, h1, j, rfl, hl, k⟩
    exact ⟨_, _, by unfold iRg1; rw [h1]; show (if -1000000 ≤ j ∧ j ≤ 1000000 then _ else _) = _; rw [if_pos hl], k⟩
@[simp] theorem wI_rg2 : wI (iRg2 a b) e S I ↔ wE a e S fun x S1 => wE b e S1 fun y S2 => ∃ i j, x = .int i ∧ y = .int j ∧ (-1000000 ≤ j ∧ j ≤ 1000000 ∧ -1000000 ≤ i ∧ i ≤ 1000000) ∧ I ⟨rngD i (j - i).toNat, []⟩ S2 := by
  constructor
  · rintro ⟨d, S', h, k⟩
    obtain ⟨⟨x, S1⟩, h1, h⟩ := Option.bind_eq_some_iff.mp h
    obtain ⟨⟨y, S2⟩, h2, h⟩ := Option.bind_eq_some_iff.mp h
    dsimp only at h
    split at h
    · split at h
      · rename_i hl; cases h; exact ⟨_, _, h1, _, _, h2, _, _, rfl, rfl, hl, k⟩
      · cases h
    · cases h
  · rintro ⟨x, S1, h1, y, S2, h2, i, j, rfl, rfl, hl, k⟩
    exact ⟨_, _, by unfold iRg2; rw [h1]; show (b e S1).bind _ = _; rw [h2]; show (if -1000000 ≤ j ∧ j ≤ 1000000 ∧ -1000000 ≤ i ∧ i ≤ 1000000 then _ else _) = _; rw [if_pos hl], k⟩
end
end MM
set_option maxRecDepth 100000
set_option maxHeartbeats 1000000
namespace MM
open PySem PySem.Spec PyProof.Rows L2
local instance tab_Mm17 : Tabl := tab0
/-! ### loops, plainly -/
section
variable {e : MEnv} {S : Store} {Q : D → Store → Prop} {B : Fl → MEnv → Store → Prop} {mi : MI} {p : PTg} {body : MS} {J : Its} {vs : List Nat} {tt : MT} {me : M}
def wL (J : Its) (p : PTg) (body : MS) (xs : List D) (e : MEnv) (S : Store) (B : Fl → MEnv → Store → Prop) : Prop := ∃ f e' S', loopF J p body xs e S = some (f, e', S') ∧ B f e' S'
@[simp] theorem wS_for : wS (sFor mi p body) e S B ↔ wI mi e S fun J S1 => wL J p body J.items e S1 B := by
  constructor
  · rintro ⟨f, e', S', h, k⟩
    obtain ⟨⟨J, S1⟩, h1, h⟩ := Option.bind_eq_some_iff.mp h
    exact ⟨_, _, h1, _, _, _, h, k⟩
  · rintro ⟨J, S1, h1, f, e', S', h, k⟩
    exact ⟨_, _, _, by unfold sFor; rw [h1]; exact h, k⟩
theorem wL_nil : wL J p body [] e S B ↔ still S J = true ∧ B .nx e S := by
  constructor
  · rintro ⟨f, e', S', h, k⟩
    unfold loopF at h
    split at h
    · rename_i hs; cases h; exact ⟨hs, k⟩
    · cases h
  · rintro ⟨hs, k⟩
    exact ⟨_, _, _, by unfold loopF; rw [if_pos hs], k⟩
/-- what a turn's end leads to -/
def turn (N : MEnv → Store → Prop) (B : Fl → MEnv → Store → Prop) : Fl → MEnv → Store → Prop := fun f e S => match f with
  | .nx => N e S
  | .ct => N e S
  | .bk => B .nx e S
  | .rt d => B (.rt d) e S
@[simp] theorem turn_nx {N : MEnv → Store → Prop} : turn N B .nx e S ↔ N e S := Iff.rfl
@[simp] theorem turn_ct {N : MEnv → Store → Prop} : turn N B .ct e S ↔ N e S := Iff.rfl
@[simp] theorem turn_bk {N : MEnv → Store → Prop} : turn N B .bk e S ↔ B .nx e S := Iff.rfl
@[simp] theorem turn_rt {N : MEnv → Store → Prop} {d : D} : turn N B (.rt d) e S ↔ B (.rt d) e S := Iff.rfl
theorem wL_cons {x : D} {xs : List D} : wL J p body (x :: xs) e S B ↔ still S J = true ∧ ∃ e1, p x e = some e1 ∧ wS body e1 S (turn (fun e' S' => wL J p body xs e' S' B) B) := by
  constructor
  · rintro ⟨f, e', S', h, k⟩
    unfold loopF at h
    split at h
    · rename_i hs
      obtain ⟨e1, h1, h⟩ := Option.bind_eq_some_iff.mp h
      obtain ⟨⟨f2, e2, S2⟩, h2, h⟩ := Option.bind_eq_some_iff.mp h
      refine ⟨hs, e1, h1, _, _, _, h2, ?_⟩
      cases f2 with
      | nx => exact ⟨_, _, _, h, k⟩
      | ct => exact ⟨_, _, _, h, k⟩
      | bk => cases h; exact k
      | rt d => cases h; exact k
    · cases h
  · rintro ⟨hs, e1, h1, f, e', S', h, k⟩
    cases f with
    | nx => obtain ⟨f3, e3, S3, h3, k⟩ := k; exact ⟨_, _, _, by unfold loopF; rw [if_pos hs, h1]; show (body e1 S).bind _ = _; rw [h]; exact h3, k⟩
    | ct => obtain ⟨f3, e3, S3, h3, k⟩ := k; exact ⟨_, _, _, by unfold loopF; rw [if_pos hs, h1]; show (body e1 S).bind _ = _; rw [h]; exact h3, k⟩
    | bk => exact ⟨_, _, _, by unfold loopF; rw [if_pos hs, h1]; show (body e1 S).bind _ = _; rw [h]; rfl, k⟩
    | rt d => exact ⟨_, _, _, by unfold loopF; rw [if_pos hs, h1]; show (body e1 S).bind _ = _; rw [h]; rfl, k⟩
/-- a loop over what l encodes, with an invariant told by what is done and what is left -/
theorem wL_inv {α : Type} {enc : α → D} (V : List α → List α → MEnv → Store → Prop) (hs : ∀ a b e S, V a b e S → still S J = true)
    (step : ∀ a x b e S, V a (x :: b) e S → ∃ e1, p (enc x) e = some e1 ∧ wS body e1 S (turn (V (a ++ [x]) b) B)) : ∀ (l a : List α) (e : MEnv) (S : Store), V a l e S → (∀ e S, V (a ++ l) [] e S → B .nx e S) → wL J p body (l.map enc) e S B
  | [], a, e, S, h, fin => wL_nil.mpr ⟨hs _ _ _ _ h, fin e S (by simpa using h)⟩
  | x :: l, a, e, S, h, fin => by
    obtain ⟨e1, h1, h2⟩ := step a x l e S h
    refine wL_cons.mpr ⟨hs _ _ _ _ h, e1, h1, h2.mono fun f e' S' k => ?_⟩
    cases f with
    | nx => exact wL_inv V hs step l (a ++ [x]) e' S' k fun e S z => fin e S (by simpa using z)
    | ct => exact wL_inv V hs step l (a ++ [x]) e' S' k fun e S z => fin e S (by simpa using z)
    | bk => exact k
    | rt d => exact k
def wK (J : Its) (e0 : MEnv) (p : PTg) (tt : MT) (me : M) (xs : List D) (S : Store) (acc : List D) (Q : List D → Store → Prop) : Prop := ∃ r S', loopC J e0 p tt me xs S acc = some (r, S') ∧ Q r S'
@[simp] theorem wE_comp : wE (mComp mi vs p tt me) e S Q ↔ wI mi e S fun J S1 => J.items.length ≤ 4000 ∧ wK J (wipeE e vs) p tt me J.items S1 [] fun r S' => Q (.lst r) S' := by
  constructor
  · rintro ⟨d, S', h, k⟩
    obtain ⟨⟨J, S1⟩, h1, h⟩ := Option.bind_eq_some_iff.mp h
    refine ⟨_, _, h1, ?_⟩
    dsimp only at h
    split at h
    · rename_i hl
      obtain ⟨⟨r, S2⟩, h2, h⟩ := Option.map_eq_some_iff.mp h
      cases h
      exact ⟨hl, _, _, h2, k⟩
    · cases h
  · rintro ⟨J, S1, h1, hl, r, S2, h2, k⟩
    exact ⟨_, _, by unfold mComp; rw [h1]; show (if J.items.length ≤ 4000 then _ else _) = _; rw [if_pos hl, h2]; rfl, k⟩
section
variable {acc : List D} {e0 : MEnv} {QL : List D → Store → Prop}
theorem wK_nil : wK J e0 p tt me [] S acc QL ↔ still S J = true ∧ QL acc S := by
  constructor
  · rintro ⟨r, S', h, k⟩
    unfold loopC at h
    split at h
    · rename_i hs; cases h; exact ⟨hs, k⟩
    · cases h
  · rintro ⟨hs, k⟩
    exact ⟨_, _, by unfold loopC; rw [if_pos hs], k⟩
theorem wK_cons {x : D} {xs : List D} : wK J e0 p tt me (x :: xs) S acc QL ↔ still S J = true ∧ ∃ e1, p x e0 = some e1 ∧ wT tt e1 S fun b S1 => if b = true then wE me e1 S1 fun y S2 => wK J e0 p tt me xs S2 (acc ++ [y]) QL else wK J e0 p tt me xs S1 acc QL := by
  constructor
  · rintro ⟨r, S', h, k⟩
    unfold loopC at h
    split at h
    · rename_i hs
      obtain ⟨e1, h1, h⟩ := Option.bind_eq_some_iff.mp h
      obtain ⟨⟨b, S1⟩, h2, h⟩ := Option.bind_eq_some_iff.mp h
      refine ⟨hs, e1, h1, _, _, h2, ?_⟩
      dsimp only at h
      cases b with
      | true =>
        rw [if_pos rfl] at h ⊢
        obtain ⟨⟨y, S2⟩, h3, h⟩ := Option.bind_eq_some_iff.mp h
        exact ⟨_, _, h3, _, _, h, k⟩
      | false =>
        rw [if_neg (by simp)] at h ⊢
        exact ⟨_, _, h, k⟩
    · cases h
  · rintro ⟨hs, e1, h1, b, S1, h2, h⟩
    cases b with
    | true =>
      rw [if_pos rfl] at h
      obtain ⟨y, S2, h3, r, S3, h4, k⟩ := h
      exact ⟨_, _, by unfold loopC; rw [if_pos hs, h1]; show (tt e1 S).bind _ = _; rw [h2]; show (me e1 S1).bind _ = _; rw [h3]; exact h4, k⟩
    | false =>
      rw [if_neg (by simp)] at h
      obtain ⟨r, S3, h4, k⟩ := h
      exact ⟨_, _, by unfold loopC; rw [if_pos hs, h1]; show (tt e1 S).bind _ = _; rw [h2]; exact h4, k⟩
theorem wK_inv {α : Type} {enc : α → D} (V : List α → List α → Store → List D → Prop) (hs : ∀ a b S acc, V a b S acc → still S J = true)
    (step : ∀ a x b S acc, V a (x :: b) S acc → ∃ e1, p (enc x) e0 = some e1 ∧ wT tt e1 S fun k S1 => if k = true then wE me e1 S1 fun y S2 => V (a ++ [x]) b S2 (acc ++ [y]) else V (a ++ [x]) b S1 acc) :
    ∀ (l a : List α) (S : Store) (acc : List D), V a l S acc → (∀ S acc, V (a ++ l) [] S acc → QL acc S) → wK J e0 p tt me (l.map enc) S acc QL
  | [], a, S, acc, h, fin => wK_nil.mpr ⟨hs _ _ _ _ h, fin S acc (by simpa using h)⟩
  | x :: l, a, S, acc, h, fin => by
    obtain ⟨e1, h1, k, S1, h2, h3⟩ := step a x l S acc h
    refine wK_cons.mpr ⟨hs _ _ _ _ h, e1, h1, k, S1, h2, ?_⟩
    cases k with
    | true =>
      rw [if_pos rfl] at h3 ⊢
      exact h3.mono fun y S2 z => wK_inv V hs step l (a ++ [x]) S2 _ z fun S acc w => fin S acc (by simpa using w)
    | false =>
      rw [if_neg (by simp)] at h3 ⊢
      exact wK_inv V hs step l (a ++ [x]) S1 _ h3 fun S acc w => fin S acc (by simpa using w)
/-- a comprehension that changes nothing: a filter and a map -/
theorem wK_map {α : Type} {enc g : α → D} (c : α → Bool) (hs : still S J = true) : ∀ (l : List α) (acc : List D),
    (∀ x ∈ l, ∃ e1, p (enc x) e0 = some e1 ∧ wT tt e1 S fun k S1 => k = c x ∧ S1 = S ∧ (c x = true → wE me e1 S fun y S2 => y = g x ∧ S2 = S)) → QL (acc ++ (l.filter c).map g) S → wK J e0 p tt me (l.map enc) S acc QL
  | [], acc, _, q => wK_nil.mpr ⟨hs, by simpa using q⟩
  | x :: l, acc, h, q => by
    obtain ⟨e1, h1, k, S1, h2, ek, eS, h3⟩ := h x (by simp)
    rw [ek, eS] at h2
    refine wK_cons.mpr ⟨hs, e1, h1, _, _, h2, ?_⟩
    cases hc : c x with
    | true =>
      rw [if_pos rfl]
      refine (h3 hc).mono fun y S2 ⟨z1, z2⟩ => ?_
      rw [z1, z2]
      exact wK_map c hs l _ (fun x hx => h x (by simp [hx])) (by simpa [List.filter_cons, hc] using q)
    | false =>
      rw [if_neg (by simp)]
      exact wK_map c hs l _ (fun x hx => h x (by simp [hx])) (by simpa [List.filter_cons, hc] using q)
theorem wK_map0 {α : Type} {enc g : α → D} (hs : still S J = true) (l : List α) (acc : List D)
    (h : ∀ x ∈ l, ∃ e1, p (enc x) e0 = some e1 ∧ wE me e1 S fun y S2 => y = g x ∧ S2 = S) (q : QL (acc ++ l.map g) S) : wK J e0 p tTrue me (l.map enc) S acc QL := by
  refine wK_map (g := g) (fun _ => true) hs l acc (fun x hx => ?_) (by rw [List.filter_eq_self.mpr fun _ _ => rfl]; exact q)
  obtain ⟨e1, h1, h2⟩ := h x hx
  exact ⟨e1, h1, by simpa using h2⟩
end
end
/-! ### calls, plainly -/
/-- what F answers of data -/
def Rg (F : Fn) (ds : List D) (r : D) : Prop := wF F ds [] fun d S' => frzD S' 30 d = some r
section
variable {S : Store} {Q : D → Store → Prop} {F : Fn} {ds ds' : List D} {r : D}
theorem frzM_pure {S : Store} {n : Nat} : ∀ {xs : List D}, D.pures xs = true → xs.mapM (frzD S (n + 1)) = some xs
  | [], _ => rfl
  | x :: xs, h => by
    simp [D.pures] at h
    rw [List.mapM_cons, frz_pure h.1]
    simp [frzM_pure h.2]
mutual
theorem flat_pure : ∀ {d : D}, D.flat d = true → D.pure d = true
  | .non, _ => rfl
  | .bl _, _ => rfl
  | .int _, _ => rfl
  | .str _, _ => rfl
  | .tup xs, h => by simp only [D.flat] at h; simp only [D.pure]; exact flats_pure h
  | .unset, h => by simp [D.flat] at h
  | .lst _, h => by simp [D.flat] at h
  | .scr _, h => by simp [D.flat] at h
  | .dic _ _, h => by simp [D.flat] at h
  | .obj _ _, h => by simp [D.flat] at h
  | .loc _, h => by simp [D.flat] at h
theorem flats_pure : ∀ {ds : List D}, D.flats ds = true → D.pures ds = true
  | [], _ => rfl
  | d :: ds, h => by
    simp only [D.flats, Bool.and_eq_true] at h
    simp only [D.pures, Bool.and_eq_true]
    exact ⟨flat_pure h.1, flats_pure h.2⟩
end
theorem frzM_flat {S : Store} {n : Nat} (ih : ∀ d r, frzD S n d = some r → D.flat r = true → d = r) : ∀ {xs rs : List D}, xs.mapM (frzD S n) = some rs → D.flats rs = true → xs = rs
  | [], rs, h, _ => by simp at h; exact h.symm
  | x :: xs, rs, h, f => by
    rw [List.mapM_cons] at h
    obtain ⟨p1, e1, h⟩ := Option.bind_eq_some_iff.mp h
    obtain ⟨p2, e2, h⟩ := Option.bind_eq_some_iff.mp h
    cases h
    simp only [D.flats, Bool.and_eq_true] at f
    rw [ih _ _ e1 f.1, frzM_flat ih e2 f.2]
theorem frz_flat {S : Store} : ∀ (n : Nat) (d r : D), frzD S n d = some r → D.flat r = true → d = r := by
  intro n
  induction n with
  | zero => intro d r h _; cases h
  | succ n ih =>
    intro d r h f
    unfold frzD at h
    split at h
    · cases h; rfl
    · have key : ∀ (xs : List D) (g : List D → D), (xs.mapM (frzD S n)).map g = some r → (∀ ys, r = g ys → D.flat r = true → g = D.tup) → D.tup xs = r := fun xs g h hg => by
        obtain ⟨ps, e9, h9⟩ := Option.map_eq_some_iff.mp h
        have := hg ps h9.symm f
        subst this
        subst h9
        rw [frzM_flat ih e9 (by simpa [D.flat] using f)]
      cases d with
      | tup xs => exact key xs .tup h fun _ _ _ => rfl
      | loc k =>
        have h : (match S[k]? with | some (D.lst xs) => (xs.mapM (frzD S n)).map D.lst | some (D.dic ks vs) => (vs.mapM (frzD S n)).map (D.dic ks) | some (D.obj c fs) => (fs.mapM (frzD S n)).map (D.obj c) | _ => none) = some r := h
        split at h
        · obtain ⟨ps, e9, h9⟩ := Option.map_eq_some_iff.mp h; subst h9; simp [D.flat] at f
        · obtain ⟨ps, e9, h9⟩ := Option.map_eq_some_iff.mp h; subst h9; simp [D.flat] at f
        · obtain ⟨ps, e9, h9⟩ := Option.map_eq_some_iff.mp h; subst h9; simp [D.flat] at f
        · cases h
      | lst xs => obtain ⟨ps, e9, h9⟩ := Option.map_eq_some_iff.mp (show (xs.mapM (frzD S n)).map D.lst = some r from h); subst h9; simp [D.flat] at f
      | scr xs => obtain ⟨ps, e9, h9⟩ := Option.map_eq_some_iff.mp (show (xs.mapM (frzD S n)).map D.scr = some r from h); subst h9; simp [D.flat] at f
      | dic ks vs => obtain ⟨ps, e9, h9⟩ := Option.map_eq_some_iff.mp (show (vs.mapM (frzD S n)).map (D.dic ks) = some r from h); subst h9; simp [D.flat] at f
      | obj c fs => obtain ⟨ps, e9, h9⟩ := Option.map_eq_some_iff.mp (show (fs.mapM (frzD S n)).map (D.obj c) = some r from h); subst h9; simp [D.flat] at f
      | non => cases h; rfl
      | unset => cases h; rfl
      | bl b => cases h; rfl
      | int b => cases h; rfl
      | str b => cases h; rfl
theorem wC_reg (h : Rg F ds' r) (e : fzs S ds = some ds') (hp : D.pures ds = true ∨ D.flat r = true) (q : Q r S) : wC false F ds S Q := by
  obtain ⟨d, S', h1, h2⟩ := h
  by_cases hq : D.pures ds = true
  · refine ⟨r, S, ?_, q⟩
    unfold callI
    dsimp only
    rw [e]
    dsimp only [Option.bind]
    rw [h1]
    dsimp only
    rw [if_pos hq, h2]
    rfl
  · have hf := hp.resolve_left hq
    have := frz_flat _ _ _ h2 hf
    subst this
    refine ⟨d, S, ?_, q⟩
    unfold callI
    dsimp only
    rw [e]
    dsimp only [Option.bind]
    rw [h1]
    dsimp only
    rw [if_neg hq, if_pos hf]
theorem wC_pure (h : Rg F ds r) (hp : D.pures ds = true) (q : Q r S) : wC false F ds S Q := wC_reg h (fzs_pure hp) (.inl hp) q
end
/-! ### the box -/
def bxd (b : Int × Int × Int) : D := .lst [.int b.1, .int b.2.1, .int b.2.2]
@[simp] theorem bxd_flat {b : Int × Int × Int} : flatC (bxd b) = true := by simp [bxd, flatC, D.flats, D.flat]
/-- the box may give n draws more -/
def Okb (n : Nat) (b : Int × Int × Int) : Prop := 0 ≤ b.2.2 ∧ b.2.2 + n ≤ 2 ^ 60
theorem Okb.le {n m : Nat} {b : Int × Int × Int} (h : Okb n b) (l : m ≤ n) : Okb m b := ⟨h.1, by have := h.2; omega⟩
/-- a def with a box ends well: n draws are left, and P stands of the answer -/
def Ends' (n : Nat) (P : D → Prop) (d : D) (S : Store) : Prop := ∃ b' S' r, S = bxd b' :: S' ∧ frzD (.unset :: S') 30 d = some r ∧ Okb n b' ∧ P r
/-- F draws from the box at most t times and answers as P says -/
def Dr (t : Nat) (F : Fn) (ds : List D) (P : D → Prop) : Prop := ∀ (n : Nat) b, Okb (n + t) b → wF F (.loc 0 :: ds) [bxd b] (Ends' n P)
section
variable {S : Store} {Q : D → Store → Prop} {F : Fn} {ds ds' : List D} {t n k : Nat} {P : D → Prop} {b : Int × Int × Int}
theorem ends_pure {d : D} (hb : Okb n b) (hd : D.pure d = true) (hp : P d) : Ends' n P d (bxd b :: S) := ⟨b, S, d, rfl, frz_pure hd, hb, hp⟩
theorem ends_loc {xs : List D} (hb : Okb n b) (hk : S[k]? = some (.lst xs)) (hd : D.pures xs = true) (hp : P (.lst xs)) : Ends' n P (.loc (k + 1)) (bxd b :: S) := by
  refine ⟨b, S, .lst xs, rfl, ?_, hb, hp⟩
  unfold frzD
  rw [if_neg (by simp [D.pure])]
  show (match (D.unset :: S)[k + 1]? with | some (D.lst xs) => (xs.mapM (frzD (.unset :: S) 29)).map D.lst | some (D.dic ks vs) => (vs.mapM (frzD (.unset :: S) 29)).map (D.dic ks) | some (D.obj c fs) => (fs.mapM (frzD (.unset :: S) 29)).map (D.obj c) | _ => none) = _
  rw [List.getElem?_cons_succ, hk]
  dsimp only
  rw [frzM_pure hd]
  rfl
theorem Dr.mono {P' : D → Prop} (h : Dr t F ds P) (i : ∀ d, P d → P' d) : Dr t F ds P' := fun n b hb => (h n b hb).mono fun d S' ⟨b', S'', r, x, y, z, w⟩ => ⟨b', S'', r, x, y, z, i _ w⟩
theorem Dr.le {t' : Nat} (h : Dr t F ds P) (l : t ≤ t') : Dr t' F ds P := fun n b hb => h n b (hb.le (by omega))
theorem wC_box (h : Dr t F ds' P) (hk : S[k]? = some (bxd b)) (hb : Okb (n + t) b) (e : fzs (S.set k .unset) ds = some ds') (hp : D.pures ds = true ∨ ∀ d, P d → D.flat d = true) (q : ∀ d b', P d → Okb n b' → Q d (S.set k (bxd b'))) : wC true F (.loc k :: ds) S Q := by
  obtain ⟨d, S1, h1, b', S', r, rfl, h3, h4, h5⟩ := h n b hb
  refine ⟨r, S.set k (bxd b'), ?_, q r b' h5 h4⟩
  unfold callI
  dsimp only
  rw [hk]
  dsimp only [Option.bind]
  rw [if_pos bxd_flat, e]
  dsimp only
  rw [h1]
  show (if flatC (bxd b') = true then (if D.pures ds = true then (frzD (D.unset :: S') 30 d).map fun r => (r, S.set k (bxd b')) else if D.flat d = true then some (d, S.set k (bxd b')) else none) else none) = _
  rw [if_pos bxd_flat]
  by_cases hq : D.pures ds = true
  · rw [if_pos hq, h3]
    rfl
  · have hf := hp.resolve_left hq r h5
    have := frz_flat _ _ _ h3 hf
    subst this
    rw [if_neg hq, if_pos hf]
theorem wC_draw (h : Dr t F ds P) (hk : S[k]? = some (bxd b)) (hb : Okb (n + t) b) (hp : D.pures ds = true) (q : ∀ d b', P d → Okb n b' → Q d (S.set k (bxd b'))) : wC true F (.loc k :: ds) S Q :=
  wC_box h hk hb (fzs_pure hp) (.inl hp) q
end
end MM
set_option maxRecDepth 100000
set_option maxHeartbeats 1000000
namespace MM
open PySem PySem.Spec PyProof.Rows L2
local instance tab_Mm18 : Tabl := tab0
/-! ### steps -/
def wV {α : Type} (o : Option α) (Q : α → Prop) : Prop := ∃ d, o = some d ∧ Q d
section
variable {e : MEnv} {S : Store} {Q : D → Store → Prop} {T : Bool → Store → Prop} {U : List D → Store → Prop} {O : Option Int → Store → Prop} {B : Fl → MEnv → Store → Prop} {I : Its → Store → Prop} {a b c : M} {t u : MT} {as ks : MA} {p q : MS} {F : Fn} {ds : List D} {mi : MI} {g : PTg} {tt : MT} {me : M} {vs : List Nat} {ar : Nat} {bx : Bool}
theorem v_mk {α : Type} {o : Option α} {R : α → Prop} {d : α} (h : o = some d) (q : R d) : wV o R := ⟨d, h, q⟩
theorem v_some {α : Type} {R : α → Prop} {d : α} (q : R d) : wV (some d) R := ⟨d, rfl, q⟩
theorem v_map {α β : Type} {o : Option α} {f : α → β} {R : β → Prop} (h : wV o fun d => R (f d)) : wV (o.map f) R := by
  obtain ⟨d, h, q⟩ := h
  exact ⟨f d, by rw [h]; rfl, q⟩
theorem v_bind {α β : Type} {o : Option α} {f : α → Option β} {R : β → Prop} (h : wV o fun d => wV (f d) R) : wV (o.bind f) R := by
  obtain ⟨d, h, d2, h2, q⟩ := h
  exact ⟨d2, by rw [h]; exact h2, q⟩
theorem e_var {i : Nat} {d : D} (h : e[i]? = some (some d)) (q : Q d S) : wE (mVar i) e S Q := wE_var.mpr ⟨d, h, q⟩
theorem e_c {d : D} (q : Q d S) : wE (mC d) e S Q := wE_c.mpr q
theorem e_new (h : wE a e S fun d S' => Q (.loc S'.length) (S' ++ [d])) : wE (mNew a) e S Q := wE_new.mpr h
theorem e_m1 {f : F1} (h : wE a e S fun x S1 => wV (f S1 x) fun d => Q d S1) : wE (m1 f a) e S Q := wE_m1.mpr h
theorem e_m2 {f : F2} (h : wE a e S fun x S1 => wE b e S1 fun y S2 => wV (f S2 x y) fun d => Q d S2) : wE (m2 f a b) e S Q := wE_m2.mpr h
theorem e_ch {f g : F2} (h : wE a e S fun x S1 => wE b e S1 fun y S2 => wV (f S2 x y) fun k => ∃ z, k = .bl z ∧ if z = true then wE c e S2 fun w S3 => wV (g S3 y w) fun d => Q d S3 else Q (.bl false) S2) : wE (mCh f g a b c) e S Q :=
  wE_ch.mpr (h.mono fun _ _ h => h.mono fun _ _ ⟨_, h1, z, h2, h3⟩ => ⟨z, h2 ▸ h1, h3⟩)
theorem e_and (h : wE a e S fun x S1 => wV (truD S1 x) fun k => if k = true then wE b e S1 Q else Q x S1) : wE (mAnd a b) e S Q := wE_and.mpr h
theorem e_or (h : wE a e S fun x S1 => wV (truD S1 x) fun k => if k = true then Q x S1 else wE b e S1 Q) : wE (mOr a b) e S Q := wE_or.mpr h
theorem e_not (h : wE a e S fun x S1 => wV (truD S1 x) fun k => Q (.bl (!k)) S1) : wE (mNot a) e S Q := wE_not.mpr h
theorem e_if (h : wT t e S fun k S1 => if k = true then wE a e S1 Q else wE b e S1 Q) : wE (mIf t a b) e S Q := wE_if.mpr h
theorem e_tup (h : wA as e S fun xs S1 => xs.length ≤ 4000 ∧ Q (.tup xs) S1) : wE (mTup as) e S Q := wE_tup.mpr h
theorem e_lst (h : wA as e S fun xs S1 => xs.length ≤ 4000 ∧ Q (.lst xs) S1) : wE (mLst as) e S Q := wE_lst.mpr h
theorem e_sl {f : F3} {lo hi : MO} (h : wE a e S fun x S1 => wO lo e S1 fun i S2 => wO hi e S2 fun j S3 => wV (f S3 x i j) fun d => Q d S3) : wE (mSl f a lo hi) e S Q := wE_sl.mpr h
theorem e_app (h : wE a e S fun x S1 => wE b e S1 fun y S2 => ∃ n xs0 xs, x = .loc n ∧ S1[n]? = some (.lst xs0) ∧ S2[n]? = some (.lst xs) ∧ xs.length < 4000 ∧ Q .non (S2.set n (.lst (xs ++ [y])))) : wE (mApp a b) e S Q := wE_app.mpr h
theorem e_call (h : wA as e S fun ds S1 => ds.length = ar ∧ wF F ds S1 Q) : wE (mCall F ar as) e S Q := wE_call.mpr h
theorem e_callR (h : wA as e S fun ds S1 => ds.length = ar ∧ wC bx F ds S1 Q) : wE (mCallR bx F ar as) e S Q := wE_callR.mpr h
theorem e_comp (h : wI mi e S fun J S1 => J.items.length ≤ 4000 ∧ wK J (wipeE e vs) g tt me J.items S1 [] fun r S' => Q (.lst r) S') : wE (mComp mi vs g tt me) e S Q := wE_comp.mpr h
theorem t_b1 (h : wE a e S fun x S1 => ∃ k, x = .bl k ∧ T k S1) : wT (tB1 a) e S T := wT_b1.mpr h
theorem t_tr (h : wE a e S fun x S1 => wV (truD S1 x) fun k => T k S1) : wT (tTr a) e S T := wT_tr.mpr h
theorem t_an (h : wT t e S fun k S1 => if k = true then wT u e S1 T else T false S1) : wT (tAn t u) e S T := wT_an.mpr h
theorem t_or (h : wT t e S fun k S1 => if k = true then T true S1 else wT u e S1 T) : wT (tOr' t u) e S T := wT_or.mpr h
theorem t_no (h : wT t e S fun k S1 => T (!k) S1) : wT (tNo t) e S T := wT_no.mpr h
theorem t_true (h : T true S) : wT tTrue e S T := wT_true.mpr h
theorem a_nil (h : U [] S) : wA aNil e S U := wA_nil.mpr h
theorem a_cons (h : wE a e S fun x S1 => wA as e S1 fun xs S2 => U (x :: xs) S2) : wA (aCons a as) e S U := wA_cons.mpr h
theorem a_pick {n m : Nat} {ix : List Nat} (h : wA as e S fun xs S1 => wA ks e S1 fun ys S2 => xs.length = n ∧ ys.length = m ∧ U (pick ix (xs ++ ys)) S2) : wA (aPick n m ix as ks) e S U :=
  wA_pick.mpr (let ⟨a, b, c, d, e, f, g, h, i⟩ := h; ⟨a, b, c, d, e, f, ⟨g, h⟩, i⟩)
theorem o_no (h : O none S) : wO oNo e S O := wO_no.mpr h
theorem o_so (h : wE a e S fun x S1 => ∃ i, x = .int i ∧ O (some i) S1) : wO (oSo a) e S O := wO_so.mpr h
theorem s_nil (h : B .nx e S) : wS sNil e S B := wS_nil.mpr h
theorem s_retn (h : B (.rt .non) e S) : wS sRetN e S B := wS_retn.mpr h
theorem s_brk (h : B .bk e S) : wS sBrk e S B := wS_brk.mpr h
theorem s_cnt (h : B .ct e S) : wS sCnt e S B := wS_cnt.mpr h
theorem s_seq (h : wS p e S (thenS q B)) : wS (sSeq p q) e S B := wS_seq.mpr h
theorem s_set {i : Nat} (h : wE a e S fun x S1 => B .nx (e.set i (some x)) S1) : wS (sSet i a) e S B := wS_set.mpr h
theorem s_expr (h : wE a e S fun x S1 => B .nx e S1) : wS (sExpr a) e S B := wS_expr.mpr h
theorem s_ret (h : wE a e S fun x S1 => B (.rt x) e S1) : wS (sRet a) e S B := wS_ret.mpr h
theorem s_if (h : wT t e S fun k S1 => if k = true then wS p e S1 B else wS q e S1 B) : wS (sIf t p q) e S B := wS_if.mpr h
theorem s_asg (h : wE a e S fun x S1 => wV (g x e) fun e' => B .nx e' S1) : wS (sAsg a g) e S B := wS_asg.mpr h
theorem s_par {g : PTs} (h : wA as e S fun x S1 => wV (g x e) fun e' => B .nx e' S1) : wS (sPar as g) e S B := wS_par.mpr h
theorem s_sub (h : wE a e S fun x S1 => wE b e S1 fun y S2 => wE c e S2 fun z S3 => ∃ n k xs j, y = .loc n ∧ z = .int k ∧ S3[n]? = some (.lst xs) ∧ ixN xs.length k = some j ∧ B .nx e (S3.set n (.lst (xs.set j x)))) : wS (sSub a b c) e S B := wS_sub.mpr h
theorem s_for (h : wI mi e S fun J S1 => wL J g p J.items e S1 B) : wS (sFor mi g p) e S B := wS_for.mpr h
theorem f_fn {n : Nat} (h : wS p (startE n ds) S (endF Q)) : wF (fnM n p) ds S Q := wF_fn.mpr h
theorem n_then (h : wS q e S B) : thenS q B .nx e S := h
theorem n_thenr {d : D} (h : B (.rt d) e S) : thenS q B (.rt d) e S := h
theorem n_thenb (h : B .bk e S) : thenS q B .bk e S := h
theorem n_thenc (h : B .ct e S) : thenS q B .ct e S := h
theorem n_endr {d : D} (h : Q d S) : endF Q (.rt d) e S := h
theorem n_endn (h : Q .non S) : endF Q .nx e S := h
theorem n_turn {N : MEnv → Store → Prop} (h : N e S) : turn N B .nx e S := h
theorem n_turnc {N : MEnv → Store → Prop} (h : N e S) : turn N B .ct e S := h
theorem n_turnb {N : MEnv → Store → Prop} (h : B .nx e S) : turn N B .bk e S := h
theorem n_turnr {N : MEnv → Store → Prop} {d : D} (h : B (.rt d) e S) : turn N B (.rt d) e S := h
theorem i_seq (h : wE a e S fun x S1 => wV (itsOf S1 x) fun J => I J S1) : wI (iSeq a) e S I := wI_seq.mpr h
theorem i_zip (h : wE a e S fun x S1 => wE b e S1 fun y S2 => wV (zipIt S2 x y) fun J => I J S2) : wI (iZip2 a b) e S I := wI_zip.mpr h
theorem i_enm (h : wE a e S fun x S1 => noStr x = true ∧ wV (itsOf S1 x) fun J => I ⟨pairsI 0 J.items, J.dep⟩ S1) : wI (iEnm a) e S I := wI_enm.mpr h
theorem i_rg1 (h : wE a e S fun x S1 => ∃ j, x = .int j ∧ (-1000000 ≤ j ∧ j ≤ 1000000) ∧ I ⟨rngD 0 j.toNat, []⟩ S1) : wI (iRg1 a) e S I := wI_rg1.mpr h
theorem i_rg2 (h : wE a e S fun x S1 => wE b e S1 fun y S2 => ∃ i j, x = .int i ∧ y = .int j ∧ (-1000000 ≤ j ∧ j ≤ 1000000 ∧ -1000000 ≤ i ∧ i ≤ 1000000) ∧ I ⟨rngD i (j - i).toNat, []⟩ S2) : wI (iRg2 a b) e S I := wI_rg2.mpr h
/-! branches -/
theorem b_t {P R : Prop} (h : P) : if true = true then P else R := h
theorem b_f {P R : Prop} (h : R) : if false = true then P else R := by rw [if_neg (by simp)]; exact h
theorem b_d {P R X : Prop} [Decidable X] (h1 : X → P) (h2 : ¬ X → R) : if decide X = true then P else R := by
  by_cases h : X
  · rw [if_pos (by simpa using h)]; exact h1 h
  · rw [if_neg (by simpa using h)]; exact h2 h
theorem b_nd {P R X : Prop} [Decidable X] (h1 : ¬ X → P) (h2 : X → R) : if (!decide X) = true then P else R := by
  by_cases h : X
  · rw [if_neg (by simpa using h)]; exact h2 h
  · rw [if_pos (by simpa using h)]; exact h1 h
theorem b_k {P R : Prop} {k : Bool} (h1 : k = true → P) (h2 : k = false → R) : if k = true then P else R := by
  cases k
  · rw [if_neg (by simp)]; exact h2 rfl
  · exact h1 rfl
theorem b_eq {P R : Prop} {k z : Bool} (hk : k = z) (h : if z = true then P else R) : if k = true then P else R := by rw [hk]; exact h
/-! values -/
variable {R : D → Prop} {i j : Int} {x y : D} {xs ys : List D}
theorem v_addI (q : R (.int (i + j))) : wV (fAdd S (.int i) (.int j)) R := ⟨_, rfl, q⟩
theorem v_addT (h : xs.length + ys.length ≤ 4000) (q : R (.tup (xs ++ ys))) : wV (fAdd S (.tup xs) (.tup ys)) R := ⟨_, if_pos h, q⟩
theorem v_addL (h1 : deref S x = some (.lst xs)) (h2 : deref S y = some (.lst ys)) (h : xs.length + ys.length ≤ 4000) (q : R (.lst (xs ++ ys))) : wV (fAddL S x y) R := ⟨_, by unfold fAddL; rw [h1, h2]; exact if_pos h, q⟩
theorem v_sub (q : R (.int (i - j))) : wV (fSub S (.int i) (.int j)) R := ⟨_, rfl, q⟩
theorem v_mul (h : okM i j = true) (q : R (.int (i * j))) : wV (fMul S (.int i) (.int j)) R := ⟨_, if_pos h, q⟩
theorem v_div (h : 0 < j ∧ j < 1073741824) (q : R (.int (i / j))) : wV (fDiv S (.int i) (.int j)) R := ⟨_, if_pos h, q⟩
theorem v_mod (h : 0 < j) (q : R (.int (i % j))) : wV (fMod S (.int i) (.int j)) R := ⟨_, if_pos h, q⟩
theorem v_ix (h1 : seqOf S x = some xs) (h2 : atI xs i = some y) (hx : isStrD x = false) (q : R y) : wV (fIx S x (.int i)) R := by
  refine ⟨y, ?_, q⟩
  unfold fIx
  cases x with
  | str z => cases hx
  | _ => dsimp only; rw [h1]; exact h2
theorem v_tupl (h1 : seqOf S x = some xs) (q : R (.tup xs)) : wV (fTuple S x) R := ⟨_, by unfold fTuple; rw [h1]; rfl, q⟩
theorem v_list (h1 : seqOf S x = some xs) (q : R (.lst xs)) : wV (fList S x) R := ⟨_, by unfold fList; rw [h1]; rfl, q⟩
theorem v_len (h1 : seqOf S x = some xs) (hx : isStrD x = false) (q : R (.int xs.length)) : wV (fLen S x) R := by
  refine ⟨_, ?_, q⟩
  unfold fLen
  cases x with
  | str z => cases hx
  | _ => dsimp only; rw [h1]; rfl
end
theorem okM_l {i j : Int} (h1 : -18446744073709551616 < i) (h2 : i < 18446744073709551616) : okM i j = true := by
  unfold okM; rw [Bool.or_eq_true]; exact .inl (decide_eq_true ⟨by simpa using h1, by simpa using h2⟩)
theorem okM_r {i j : Int} (h1 : -18446744073709551616 < j) (h2 : j < 18446744073709551616) : okM i j = true := by
  unfold okM; rw [Bool.or_eq_true]; exact .inr (decide_eq_true ⟨by simpa using h1, by simpa using h2⟩)
theorem atI_nat {α : Type} {xs : List α} {k : Nat} : atI xs (k : Int) = xs[k]? := by
  unfold atI ixN
  by_cases h : k < xs.length
  · rw [if_pos (by omega), if_pos (by omega)]; rfl
  · rw [if_pos (by omega), if_neg (by omega), List.getElem?_eq_none (by omega)]; rfl
end MM
set_option maxRecDepth 100000
set_option maxHeartbeats 4000000
namespace MM
open PySem PySem.Spec PyProof.Rows L2
local instance tab_CoM : Tabl := tab0
def c_tupled : Nat → Fn
  | 0 => fun _ _ => none
  | n + 1 => fnM 2 (sRet (mIf (tTr (m1 (fIsi2 [.lst, .tup]) (mVar 0))) (m1 fTuple (mComp (iSeq (mVar 0)) [1] (pN 1) tTrue (mCallR false (c_tupled n) 1 (aCons (mVar 1) aNil)))) (mVar 0)))
def c_filled : Fn := fnM 7 (sRet (m1 fTuple (mComp (iZip2 (mCallR false (c_tupled 14) 1 (aCons (mVar 1) aNil)) (mCallR false (c_tupled 14) 1 (aCons (mVar 0) aNil))) [2, 3, 4, 5, 6] (pT 2 (pCons (pN 2) (pCons (pT 4 (pCons (pN 3) (pCons (pN 4) (pCons (pN 5) (pCons (pN 6) pNil))))) pNil))) tTrue (mTup (aCons (mVar 2) (aCons (mVar 5) (aCons (mVar 6) aNil)))))))
def c_fills : Fn := fnM 9 (sSeq (sPar (aCons (mCallR false (c_tupled 14) 1 (aCons (mVar 0) aNil)) (aCons (mCallR false (c_tupled 14) 1 (aCons (mVar 1) aNil)) aNil)) (pCons (pN 2) (pCons (pN 3) pNil)))
  (sSeq (sIf (tOr' (tB1 (m2 fNe (m1 fLen (mVar 2)) (m1 fLen (mVar 3)))) (tB1 (m2 fNe (mCallR false c_filled 2 (aCons (mVar 2) (aCons (mComp (iSeq (mVar 3)) [4] (pN 4) tTrue (m2 fIx (mVar 4) (mC (.int 0)))) aNil))) (mVar 3)))) (sRet (mC (.bl false))) sNil)
  (sRet (m1 fAll (mComp (iZip2 (mVar 2) (mVar 3)) [4, 5, 6, 7, 8] (pT 2 (pCons (pT 4 (pCons (pN 5) (pCons (pN 6) (pCons (pN 7) (pCons (pN 8) pNil))))) (pCons (pN 4) pNil))) tTrue (mCh fLe fLe (mVar 5) (m2 fIx (mVar 4) (mC (.int 0))) (mVar 6)))))))
def c_law_box : Fn := fnM 3 (sSeq (sSet 2 (mIf (tB1 (m2 fLt (mVar 1) (m1 fLen (mVar 0)))) (m2 fIx (mVar 0) (mVar 1)) (mC (.int 0))))
  (sRet (mNew (mLst (aCons (m2 fMul (m1 fAbs (mVar 2)) (m1 fInt (m2 fGe (m1 fAbs (mVar 2)) (m2 fPow (mC (.int 10)) (mC (.int 18)))))) (aCons (m2 fAdd (m2 fAdd (m2 fMod (m1 fInt (mVar 2)) (mC (.int 2305843009213693951))) (m2 fMul (mC (.int 39373)) (mVar 1))) (mC (.int 233))) (aCons (mC (.int 0)) aNil)))))))
def c_law_take : Fn := fnM 6 (sSeq (sIf (tB1 (m2 fGt (m2 fIx (mVar 0) (mC (.int 0))) (mC (.int 0)))) (sSeq (sSet 2 (m2 fMod (m1 fInt (m2 fIx (mVar 0) (mC (.int 0)))) (mVar 1)))
  (sSeq (sSub (m2 fDiv (m2 fIx (mVar 0) (mC (.int 0))) (mVar 1)) (mVar 0) (mC (.int 0)))
  (sRet (mVar 2)))) sNil)
  (sSeq (sSub (m2 fAdd (m2 fIx (mVar 0) (mC (.int 2))) (mC (.int 1))) (mVar 0) (mC (.int 2)))
  (sSeq (sSet 3 (m2 fMod (m1 fInt (m2 fMul (m2 fAdd (m2 fIx (mVar 0) (mC (.int 1))) (m2 fMul (mC (.int 48271)) (m2 fIx (mVar 0) (mC (.int 2))))) (m2 fAdd (mC (.int 39373)) (m2 fIx (mVar 0) (mC (.int 2)))))) (mC (.int 2147483647))))
  (sSeq (sSet 4 (m2 fAdd (m2 fMod (m1 fInt (mVar 3)) (mC (.int 40009))) (mC (.int 7))))
  (sSeq (sSet 5 (m2 fMod (m1 fInt (m2 fMul (m2 fAdd (m2 fAdd (mVar 3) (m2 fIx (mVar 0) (mC (.int 2)))) (m2 fDiv (m2 fIx (mVar 0) (mC (.int 1))) (mC (.int 1000003)))) (mVar 4))) (mC (.int 2147483629))))
  (sRet (m2 fMod (m1 fInt (m2 fDiv (m2 fMod (m1 fInt (m2 fAdd (m2 fMul (mVar 5) (mC (.int 48271))) (mVar 3))) (mC (.int 2147483587))) (mC (.int 64)))) (mVar 1))))))))
def c_law_cells : Fn := fnM 6 (sSeq (sSet 2 (mOr (mNew (m1 fList (mSl fSl (mVar 0) oNo (oSo (mVar 1))))) (mNew (mLst (aCons (mC (.int 0)) aNil)))))
  (sSeq (sFor (iEnm (mSl fSl (mVar 0) (oSo (mVar 1)) (oSo (mC (.int 63))))) (pT 2 (pCons (pN 3) (pCons (pN 4) pNil))) (sSeq (sSet 5 (m2 fMod (m1 fInt (mVar 3)) (mVar 1)))
  (sSub (m2 fAdd (m2 fIx (mVar 2) (mVar 5)) (m2 fMul (mVar 4) (m2 fAdd (mVar 3) (mC (.int 2))))) (mVar 2) (mVar 5))))
  (sRet (mVar 2))))
def c_law_of : Fn := fnM 2 (sRet (m2 fIx (mVar 1) (mCallR true c_law_take 2 (aCons (mVar 0) (aCons (m1 fLen (mVar 1)) aNil)))))
def c_law_lists : Nat → Fn
  | 0 => fun _ _ => none
  | n + 1 => fnM 2 (sRet (mIf (tTr (m1 (fIsi2 [.lst, .tup]) (mVar 0))) (mComp (iSeq (mVar 0)) [1] (pN 1) tTrue (mCallR false (c_law_lists n) 1 (aCons (mVar 1) aNil))) (mVar 0)))
def c_law_same : Nat → Fn
  | 0 => fun _ _ => none
  | n + 1 => fnM 4 (sSeq (sIf (tTr (m1 (fIsi2 [.lst, .tup]) (mVar 1))) (sSeq (sIf (tOr' (tB1 (m2 fNe (m1 (fIsi .lst) (mVar 0)) (m1 (fIsi .lst) (mVar 1)))) (tB1 (m2 fNe (m1 (fIsi .tup) (mVar 0)) (m1 (fIsi .tup) (mVar 1))))) (sRet (mC (.bl false))) sNil)
  (sRet (mAnd (m2 fEq (m1 fLen (mVar 0)) (m1 fLen (mVar 1))) (m1 fAll (mComp (iZip2 (mVar 0) (mVar 1)) [2, 3] (pT 2 (pCons (pN 2) (pCons (pN 3) pNil))) tTrue (mCallR false (c_law_same n) 2 (aCons (mVar 2) (aCons (mVar 3) aNil)))))))) sNil)
  (sSeq (sIf (tOr' (tB1 (m2 fIs (mVar 1) (mC .non))) (tTr (m1 (fIsi2 [.bl, .str]) (mVar 1)))) (sRet (mAnd (m2 fEq (mVar 0) (mVar 1)) (mAnd (m2 fEq (m1 (fIsi .bl) (mVar 0)) (m1 (fIsi .bl) (mVar 1))) (m2 fEq (m2 fIs (mVar 0) (mC .non)) (m2 fIs (mVar 1) (mC .non)))))) sNil)
  (sRet (mAnd (m1 (fIsi .int) (mVar 0)) (mAnd (mNot (m1 (fIsi .bl) (mVar 0))) (m2 fEq (mVar 0) (mVar 1)))))))
def c_law_sessions : Fn := fnM 10 (sSeq (sPar (aCons (mCallR true c_law_of 2 (aCons (mVar 0) (aCons (mLst (aCons (mC (.int 2)) (aCons (mC (.int 4)) (aCons (mC (.int 9)) (aCons (mC (.int 30)) aNil))))) aNil))) (aCons (mCallR true c_law_take 2 (aCons (mVar 0) (aCons (mC (.int 3)) aNil))) (aCons (mNew (mLst aNil)) aNil))) (pCons (pN 3) (pCons (pN 4) (pCons (pN 5) pNil))))
  (sSeq (sFor (iRg1 (mVar 1)) (pN 6) (sSeq (sSet 4 (m2 fAdd (m2 fAdd (mVar 4) (mC (.int 1))) (mCallR true c_law_of 2 (aCons (mVar 0) (aCons (mLst (aCons (mC (.int 0)) (aCons (mC (.int 0)) (aCons (mC (.int 0)) (aCons (mC (.int 1)) (aCons (mC (.int 2)) aNil)))))) aNil)))))
  (sSeq (sSet 7 (m2 fMax2 (mC (.int 0)) (m2 fSub (m2 fSub (mVar 4) (mC (.int 1))) (mCallR true c_law_take 2 (aCons (mVar 0) (aCons (mVar 3) aNil))))))
  (sSeq (sSet 8 (m2 fAddL (mLst (aCons (mCallR true c_law_of 2 (aCons (mVar 0) (aCons (mVar 2) aNil))) aNil)) (mComp (iSeq (mVar 2)) [9] (pN 9) (tB1 (m2 fEq (mCallR true c_law_take 2 (aCons (mVar 0) (aCons (mC (.int 3)) aNil))) (mC (.int 0)))) (mVar 9))))
  (sExpr (mApp (mVar 5) (mTup (aCons (mVar 7) (aCons (mVar 4) (aCons (m1 fTuple (m1 fSortSet (mVar 8))) aNil))))))))))
  (sRet (m1 fTuple (mVar 5)))))
end MM
set_option maxRecDepth 100000
set_option maxHeartbeats 4000000
namespace MM
open PySem PySem.Spec PyProof.Rows L2
def c_Course_let_by : Fn := fnM 1 (sRet (m1 fTuple (m1 fSorted (m1 (fAttr (Str.ofString "Course") 3) (mVar 0)))))
def c_Sessions_init : Fn := fnM 2 (sAttr (Str.ofString "Sessions") 0 (mCallR false (c_tupled 14) 1 (aCons (mVar 1) aNil)) (mVar 0))
def c_Sessions_numbers : Fn := fnM 1 (sRet (mRgL1 (m1 fLen (m1 (fAttr (Str.ofString "Sessions") 0) (mVar 0)))))
def c_Sessions_opening : Fn := fnM 2 (sRet (m2 fIx (m2 fIx (m1 (fAttr (Str.ofString "Sessions") 0) (mVar 0)) (mVar 1)) (mC (.int 0))))
def c_Course_order : Fn := fnM 2 (sSeq (sIf (tB1 (m2 fEq (m1 (fAttr (Str.ofString "Course") 1) (mVar 0)) (mC (.str (Str.ofString "lock"))))) (sRet (mSortK (mVar 1) (mTup (aCons (mCallR false c_Sessions_opening 2 (aCons (mRecv (Str.ofString "Sessions") (m1 (fAttr (Str.ofString "Course") 2) (mVar 1))) (aCons (mVar 0) aNil))) (aCons (mVar 0) aNil))) [0] 0)) sNil)
  (sRet (m1 fSorted (mVar 1))))
def c_Sessions_saving : Fn := fnM 2 (sRet (m2 fIx (m2 fIx (m1 (fAttr (Str.ofString "Sessions") 0) (mVar 0)) (mVar 1)) (mC (.int 1))))
def c_Sessions_is_between : Fn := fnM 3 (sRet (mCh fLt fLt (mCallR false c_Sessions_opening 2 (aCons (mRecv (Str.ofString "Sessions") (mVar 0)) (aCons (mVar 2) aNil))) (mCallR false c_Sessions_saving 2 (aCons (mRecv (Str.ofString "Sessions") (mVar 0)) (aCons (mVar 1) aNil))) (mCallR false c_Sessions_saving 2 (aCons (mRecv (Str.ofString "Sessions") (mVar 0)) (aCons (mVar 2) aNil)))))
def c_Sessions_names : Fn := fnM 2 (sRet (m2 fIx (m2 fIx (m1 (fAttr (Str.ofString "Sessions") 0) (mVar 0)) (mVar 1)) (mC (.int 2))))
def c_Sessions_common : Fn := fnM 4 (sRet (m1 fTuple (mComp (iSeq (mCallR false c_Sessions_names 2 (aCons (mRecv (Str.ofString "Sessions") (mVar 0)) (aCons (mVar 1) aNil)))) [3] (pN 3) (tB1 (m2 fIn (mVar 3) (mCallR false c_Sessions_names 2 (aCons (mRecv (Str.ofString "Sessions") (mVar 0)) (aCons (mVar 2) aNil))))) (mVar 3))))
def c_Course_stands_against : Fn := fnM 4 (sSeq (sSet 3 (m1 (fAttr (Str.ofString "Course") 2) (mVar 0)))
  (sSeq (sIf (tB1 (m2 fEq (m1 (fAttr (Str.ofString "Course") 1) (mVar 0)) (mC (.str (Str.ofString "lock"))))) (sRet (m2 fGt (mCallR false c_Sessions_saving 2 (aCons (mRecv (Str.ofString "Sessions") (mVar 3)) (aCons (mVar 1) aNil))) (mCallR false c_Sessions_opening 2 (aCons (mRecv (Str.ofString "Sessions") (mVar 3)) (aCons (mVar 2) aNil))))) sNil)
  (sSeq (sIf (tB1 (m2 fEq (m1 (fAttr (Str.ofString "Course") 1) (mVar 0)) (mC (.str (Str.ofString "check"))))) (sRet (mCallR false c_Sessions_is_between 3 (aCons (mRecv (Str.ofString "Sessions") (mVar 3)) (aCons (mVar 1) (aCons (mVar 2) aNil))))) sNil)
  (sSeq (sIf (tB1 (m2 fEq (m1 (fAttr (Str.ofString "Course") 1) (mVar 0)) (mC (.str (Str.ofString "merge"))))) (sRet (mAnd (mCallR false c_Sessions_is_between 3 (aCons (mRecv (Str.ofString "Sessions") (mVar 3)) (aCons (mVar 1) (aCons (mVar 2) aNil)))) (m2 fGt (m1 fLen (mCallR false c_Sessions_common 3 (aCons (mRecv (Str.ofString "Sessions") (mVar 3)) (aCons (mVar 1) (aCons (mVar 2) aNil))))) (mC (.int 0))))) sNil)
  (sRet (mC (.bl false)))))))
def c_Course_come : Fn := fnM 4 (sSeq (sSet 2 (mComp (iSeq (m1 (fAttr (Str.ofString "Course") 3) (mVar 0))) [3] (pN 3) (tTr (mCall c_Course_stands_against 3 (aCons (mRecv (Str.ofString "Course") (mVar 0)) (aCons (mVar 3) (aCons (mVar 1) aNil))))) (mVar 3)))
  (sIf (tB1 (m2 fGt (m1 fLen (mVar 2)) (mC (.int 0)))) (sDPutM (m1 fMin (mVar 2)) (m1 (fAttr (Str.ofString "Course") 0) (mVar 0)) (mVar 1)) (sExpr (mApp (m1 (fAttr (Str.ofString "Course") 3) (mVar 0)) (mVar 1)))))
def c_Course_init : Fn := fnM 5 (sSeq (sAttr (Str.ofString "Course") 2 (mVar 1) (mVar 0))
  (sSeq (sAttr (Str.ofString "Course") 1 (mVar 2) (mVar 0))
  (sSeq (sAttr (Str.ofString "Course") 3 (mNew (mLst aNil)) (mVar 0))
  (sSeq (sAttr (Str.ofString "Course") 0 (mNew (mC (.dic [] []))) (mVar 0))
  (sFor (iSeq (mCall c_Course_order 2 (aCons (mRecv (Str.ofString "Course") (mVar 0)) (aCons (mVar 3) aNil)))) (pN 4) (sExpr (mCall c_Course_come 2 (aCons (mRecv (Str.ofString "Course") (mVar 0)) (aCons (mVar 4) aNil)))))))))
def c_course_of : Fn := fnM 3 (sSeq (sSet 2 (mMakeR (Str.ofString "Sessions") c_Sessions_init 2 (aCons (mVar 0) aNil)))
  (sRet (mMakeR (Str.ofString "Course") c_Course_init 4 (aCons (mVar 2) (aCons (mVar 1) (aCons (mCallR false c_Sessions_numbers 1 (aCons (mRecv (Str.ofString "Sessions") (mVar 2)) aNil)) aNil))))))
def c_accepted : Fn := fnM 2 (sRet (mCallR false c_Course_let_by 1 (aCons (mRecv (Str.ofString "Course") (mCallR false c_course_of 2 (aCons (mVar 0) (aCons (mVar 1) aNil)))) aNil)))
def c_Course_kept_out : Fn := fnM 2 (sRet (mNew (mComp (iSeq (m1 fDSorted (m1 (fAttr (Str.ofString "Course") 0) (mVar 0)))) [1] (pN 1) tTrue (mTup (aCons (mVar 1) (aCons (m2 fDGet (m1 (fAttr (Str.ofString "Course") 0) (mVar 0)) (mVar 1)) aNil))))))
def c_refused : Fn := fnM 2 (sRet (mNew (mCallN c_Course_kept_out 1 (aCons (mRecv (Str.ofString "Course") (mCallR false c_course_of 2 (aCons (mVar 0) (aCons (mVar 1) aNil)))) aNil))))
def c_law_is_amid : Fn := fnM 3 (sRet (mCh fLt fLt (m2 fIx (m2 fIx (mVar 0) (mVar 2)) (mC (.int 0))) (m2 fIx (m2 fIx (mVar 0) (mVar 1)) (mC (.int 1))) (m2 fIx (m2 fIx (mVar 0) (mVar 2)) (mC (.int 1)))))
def c_law_meet : Fn := fnM 4 (sRet (m1 fTuple (mComp (iSeq (m2 fIx (m2 fIx (mVar 0) (mVar 1)) (mC (.int 2)))) [3] (pN 3) (tB1 (m2 fIn (mVar 3) (m2 fIx (m2 fIx (mVar 0) (mVar 2)) (mC (.int 2))))) (mVar 3))))
def c_law_let : Fn := fnM 10 (sSeq (sAsg (mTup (aCons (mNew (mLst aNil)) (aCons (mNew (mC (.dic [] []))) aNil))) (pT 2 (pCons (pN 3) (pCons (pN 4) pNil))))
  (sSeq (sSet 5 (mIf (tB1 (m2 fEq (mVar 1) (mC (.str (Str.ofString "lock"))))) (m1 fSortD (mComp (iSeq (mVar 2)) [6] (pN 6) tTrue (mTup (aCons (m2 fIx (m2 fIx (mVar 0) (mVar 6)) (mC (.int 0))) (aCons (mVar 6) aNil))))) (mComp (iSeq (m1 fSorted (mVar 2))) [6] (pN 6) tTrue (mTup (aCons (mC (.int 0)) (aCons (mVar 6) aNil))))))
  (sSeq (sFor (iSeq (mVar 5)) (pT 2 (pCons (pN 7) (pCons (pN 6) pNil))) (sSeq (sSet 8 (mNew (mLst aNil)))
  (sSeq (sFor (iSeq (mVar 3)) (pN 9) (sSeq (sIf (tAn (tB1 (m2 fEq (mVar 1) (mC (.str (Str.ofString "lock"))))) (tB1 (m2 fGt (m2 fIx (m2 fIx (mVar 0) (mVar 9)) (mC (.int 1))) (m2 fIx (m2 fIx (mVar 0) (mVar 6)) (mC (.int 0)))))) (sExpr (mApp (mVar 8) (mVar 9))) sNil)
  (sIf (tAn (tB1 (m2 fIn (mVar 1) (mTup (aCons (mC (.str (Str.ofString "check"))) (aCons (mC (.str (Str.ofString "merge"))) aNil))))) (tTr (mCallR false c_law_is_amid 3 (aCons (mVar 0) (aCons (mVar 9) (aCons (mVar 6) aNil)))))) (sSet 8 (m2 fAdd (mVar 8) (m2 fRepL (mLst (aCons (mVar 9) aNil)) (m1 fInt (mOr (m2 fEq (mVar 1) (mC (.str (Str.ofString "check")))) (m2 fNe (mCallR false c_law_meet 3 (aCons (mVar 0) (aCons (mVar 9) (aCons (mVar 6) aNil)))) (mTup aNil))))))) sNil)))
  (sIf (tB1 (m2 fEq (mVar 8) (mLst aNil))) (sExpr (mApp (mVar 3) (mVar 6))) (sDPutM (m1 fMin (mVar 8)) (mVar 4) (mVar 6))))))
  (sRet (mTup (aCons (m1 fTuple (m1 fSorted (mVar 3))) (aCons (mComp (iSeq (m1 fDSorted (mVar 4))) [6] (pN 6) tTrue (mTup (aCons (mVar 6) (aCons (m2 fDGet (mVar 4) (mVar 6)) aNil)))) aNil)))))))
def c_Sessions_check : Fn := fnM 2 (sSeq (sIf (tNo (tB1 (mCh fLe fLt (mC (.int 0)) (mVar 1) (m1 fLen (m1 (fAttr (Str.ofString "Sessions") 0) (mVar 0)))))) sNone sNil)
  (sRet (mVar 1)))
def c_seen_by : Fn := fnM 6 (sSeq (sSet 3 (mMakeR (Str.ofString "Sessions") c_Sessions_init 2 (aCons (mVar 0) aNil)))
  (sSeq (sSet 4 (mCallR false c_Sessions_opening 2 (aCons (mRecv (Str.ofString "Sessions") (mVar 3)) (aCons (mCallR false c_Sessions_check 2 (aCons (mRecv (Str.ofString "Sessions") (mVar 3)) (aCons (mVar 2) aNil))) aNil))))
  (sRet (m1 fTuple (mComp (iSeq (mCallR false c_accepted 2 (aCons (mVar 0) (aCons (mVar 1) aNil)))) [5] (pN 5) (tB1 (m2 fLe (mCallR false c_Sessions_saving 2 (aCons (mRecv (Str.ofString "Sessions") (mVar 3)) (aCons (mVar 5) aNil))) (mVar 4))) (mVar 5))))))
def c_without : Fn := fnM 10 (sSeq (sSet 3 (mMakeR (Str.ofString "Sessions") c_Sessions_init 2 (aCons (mVar 0) aNil)))
  (sSeq (sSet 4 (mCallR false c_Sessions_check 2 (aCons (mRecv (Str.ofString "Sessions") (mVar 3)) (aCons (mVar 2) aNil))))
  (sSeq (sSet 5 (mComp (iSeq (mCallR false c_Sessions_numbers 1 (aCons (mRecv (Str.ofString "Sessions") (mVar 3)) aNil))) [6] (pN 6) (tB1 (m2 fNe (mVar 6) (mVar 4))) (mVar 6)))
  (sSeq (sAsg (mTup (aCons (mCallR false c_accepted 2 (aCons (mVar 0) (aCons (mVar 1) aNil))) (aCons (mCallR false c_Course_let_by 1 (aCons (mRecv (Str.ofString "Course") (mMakeR (Str.ofString "Course") c_Course_init 4 (aCons (mVar 3) (aCons (mVar 1) (aCons (mVar 5) aNil))))) aNil)) aNil))) (pT 2 (pCons (pN 7) (pCons (pN 8) pNil))))
  (sSeq (sSet 9 (m1 fTuple (mComp (iSeq (mVar 7)) [6] (pN 6) (tAn (tB1 (m2 fNotIn (mVar 6) (mVar 8))) (tB1 (m2 fNe (mVar 6) (mVar 2)))) (mVar 6))))
  (sRet (mTup (aCons (m1 fTuple (mComp (iSeq (mVar 8)) [6] (pN 6) (tB1 (m2 fNotIn (mVar 6) (mVar 7))) (mVar 6))) (aCons (mVar 9) aNil)))))))))
def c_alone : Fn := fnM 7 (sSeq (sAsg (mTup (aCons (mMakeR (Str.ofString "Sessions") c_Sessions_init 2 (aCons (mVar 0) aNil)) (aCons (mCallR false c_accepted 2 (aCons (mVar 0) (aCons (mVar 1) aNil))) aNil))) (pT 2 (pCons (pN 2) (pCons (pN 3) pNil))))
  (sSeq (sSet 4 (mComp2 (iSeq (mVar 3)) [5, 6] (pN 5) tTrue (iSeq (mVar 3)) [6] (pN 6) (tOr' (tTr (mCallR false c_Sessions_is_between 3 (aCons (mRecv (Str.ofString "Sessions") (mVar 2)) (aCons (mVar 5) (aCons (mVar 6) aNil))))) (tTr (mCallR false c_Sessions_is_between 3 (aCons (mRecv (Str.ofString "Sessions") (mVar 2)) (aCons (mVar 6) (aCons (mVar 5) aNil)))))) (mVar 5)))
  (sRet (m1 fTuple (mComp (iSeq (mVar 3)) [5] (pN 5) (tB1 (m2 fNotIn (mVar 5) (mVar 4))) (mVar 5))))))
def c_Sessions_between : Fn := fnM 3 (sRet (m1 fTuple (mComp (iSeq (mCallR false c_Sessions_numbers 1 (aCons (mRecv (Str.ofString "Sessions") (mVar 0)) aNil))) [2] (pN 2) (tTr (mCallR false c_Sessions_is_between 3 (aCons (mRecv (Str.ofString "Sessions") (mVar 0)) (aCons (mVar 2) (aCons (mVar 1) aNil))))) (mVar 2))))
def c_crossings : Fn := fnM 4 (sSeq (sSet 1 (mMakeR (Str.ofString "Sessions") c_Sessions_init 2 (aCons (mVar 0) aNil)))
  (sRet (mNew (m1 fSortD (mComp2 (iSeq (mCallR false c_Sessions_numbers 1 (aCons (mRecv (Str.ofString "Sessions") (mVar 1)) aNil))) [2, 3] (pN 2) tTrue (iSeq (mCallR false c_Sessions_between 2 (aCons (mRecv (Str.ofString "Sessions") (mVar 1)) (aCons (mVar 2) aNil)))) [3] (pN 3) tTrue (mTup (aCons (mVar 3) (aCons (mVar 2) aNil))))))))
end MM
set_option maxRecDepth 100000
set_option maxHeartbeats 1000000
namespace MM
open PySem PySem.Spec PyProof.Rows L2
local instance tab_Mm19 : Tabl := tab0
local macro_rules | `(tactic| walk_at "w") => `(tactic| with_reducible first
  | refine e_var (by with_unfolding_all rfl) ?_ | refine e_c ?_ | refine e_m2 ?_ | refine e_m1 ?_ | refine e_new ?_ | refine e_ch ?_ | refine e_and ?_ | refine e_or ?_ | refine e_not ?_ | refine e_if ?_ | refine e_tup ?_ | refine e_lst ?_ | refine e_sl ?_ | refine e_app ?_
  | refine e_callR ?_ | refine e_call ?_ | refine e_comp ?_ | refine t_b1 ?_ | refine t_tr ?_ | refine t_an ?_ | refine t_or ?_ | refine t_no ?_ | refine t_true ?_ | refine a_nil ?_ | refine a_cons ?_ | refine a_pick ?_ | refine o_no ?_ | refine o_so ?_
  | refine s_nil ?_ | refine s_retn ?_ | refine s_brk ?_ | refine s_cnt ?_ | refine s_seq ?_ | refine s_set ?_ | refine s_expr ?_ | refine s_ret ?_ | refine s_if ?_ | refine s_asg ?_ | refine s_par ?_ | refine s_sub ?_ | refine s_for ?_ | refine f_fn ?_
  | refine n_then ?_ | refine n_thenr ?_ | refine n_thenb ?_ | refine n_thenc ?_ | refine n_endr ?_ | refine n_endn ?_ | refine n_turn ?_ | refine n_turnc ?_ | refine n_turnb ?_ | refine n_turnr ?_ | refine i_seq ?_ | refine i_zip ?_ | refine i_enm ?_ | refine i_rg1 ?_ | refine i_rg2 ?_
  | refine b_t ?_ | refine b_f ?_ | refine v_addI ?_ | refine v_sub ?_ | refine v_some ?_
  | refine v_mod (by first | assumption | decide | omega) ?_
  | refine v_div (by first | assumption | decide | omega) ?_
  | refine v_ix (by with_unfolding_all rfl) (by with_unfolding_all rfl) (by with_unfolding_all rfl) ?_
  | refine v_tupl (by with_unfolding_all rfl) ?_ | refine v_list (by with_unfolding_all rfl) ?_ | refine v_len (by with_unfolding_all rfl) (by with_unfolding_all rfl) ?_
  | refine v_mul (by first | assumption | exact okM_l (by decide) (by decide) | exact okM_r (by decide) (by decide) | exact okM_l (by omega) (by omega) | exact okM_r (by omega) (by omega)) ?_
  | refine v_mk (by with_unfolding_all rfl) ?_
  | refine Exists.intro _ (And.intro (by with_unfolding_all rfl) ?_)
  | refine And.intro (by first | assumption | (with_unfolding_all decide) | (with_unfolding_all rfl)) ?_
  | refine Exists.intro _ (Exists.intro _ (Exists.intro _ (And.intro (by with_unfolding_all rfl) (And.intro (by with_unfolding_all rfl) (And.intro (by with_unfolding_all rfl) ?_)))))
  | refine Exists.intro _ (Exists.intro _ (Exists.intro _ (Exists.intro _ (And.intro (by with_unfolding_all rfl) (And.intro (by with_unfolding_all rfl) (And.intro (by with_unfolding_all rfl) (And.intro (by with_unfolding_all rfl) ?_))))))))
theorem ends_p3 {n : Nat} {P : D → Prop} {d : D} {S : Store} {a b c : Int} {S0 : Store} (hS : S0 = .lst [.int a, .int b, .int c] :: S) (hb : Okb n (a, b, c)) (hd : D.pure d = true) (hp : P d) : Ends' n P d S0 := by
  subst hS
  exact ends_pure (b := (a, b, c)) hb hd hp
theorem take_ok {m : Int} (hm : 0 < m) (hm2 : m < 1073741824) : Dr 1 c_law_take [.int m] fun d => ∃ v : Int, d = .int v ∧ 0 ≤ v ∧ v < m := by
  rintro n ⟨a, b, c⟩ ⟨h1, h2⟩
  simp only at h1 h2
  have hmm : 0 < m ∧ m < 1073741824 := ⟨hm, hm2⟩
  unfold c_law_take bxd
  dsimp only
  repeat walk_at "w"
  refine b_d (fun ha => ?_) (fun ha => ?_)
  · repeat walk_at "w"
    exact ends_p3 rfl ⟨h1, by simp only; omega⟩ rfl ⟨_, rfl, Int.emod_nonneg _ (by omega), Int.emod_lt_of_pos _ hm⟩
  · repeat walk_at "w"
    exact ends_p3 rfl ⟨by simp only; omega, by simp only; omega⟩ rfl ⟨_, rfl, Int.emod_nonneg _ (by omega), Int.emod_lt_of_pos _ hm⟩
theorem seq_ne {d : D} {xs : List D} {S : Store} (h : d = .tup xs ∨ d = .lst xs ∨ d = .scr xs) : seqOf S d = some xs ∧ isStrD d = false := by
  rcases h with h | h | h <;> subst h <;> exact ⟨rfl, rfl⟩
theorem pures_get : ∀ {xs : List D} {k : Nat} {x : D}, D.pures xs = true → xs[k]? = some x → D.pure x = true
  | [], _, _, _, h => by simp at h
  | y :: xs, 0, x, hp, h => by simp at h; subst h; simp [D.pures] at hp; exact hp.1
  | y :: xs, k + 1, x, hp, h => by simp [D.pures] at hp; exact pures_get hp.2 (by simpa using h)
/-- one of some -/
theorem of_ok {d : D} {xs : List D} (hd : d = .tup xs ∨ d = .lst xs ∨ d = .scr xs) (h0 : 0 < xs.length) (h1 : xs.length < 1073741824) (hp : D.pures xs = true) : Dr 1 c_law_of [d] fun x => x ∈ xs := by
  intro n b hb
  unfold c_law_of
  obtain ⟨z1, z2⟩ := fun S => seq_ne (S := S) hd, (seq_ne (S := []) hd).2
  repeat walk_at "w"
  refine v_len (z1 _).1 z2 ?_
  repeat walk_at "w"
  refine wC_draw (take_ok (by omega) (by omega)) (k := 0) rfl hb rfl ?_
  rintro _ b' ⟨v, rfl, v1, v2⟩ hb'
  obtain ⟨k, rfl⟩ := Int.eq_ofNat_of_zero_le v1
  have hk : k < xs.length := by omega
  have hg : xs[k]? = some xs[k] := List.getElem?_eq_getElem hk
  refine v_ix (z1 _).1 (by rw [atI_nat]; exact hg) z2 ?_
  repeat walk_at "w"
  exact ends_pure hb' (pures_get hp hg) (List.mem_of_getElem? hg)
end MM
set_option maxRecDepth 100000
set_option maxHeartbeats 1000000
namespace MM
open PySem PySem.Spec PyProof.Rows L2
local instance tab_Mm20 : Tabl := tab0
local macro_rules | `(tactic| walk_at "w") => `(tactic| with_reducible first
  | refine e_var (by with_unfolding_all rfl) ?_ | refine e_c ?_ | refine e_m2 ?_ | refine e_m1 ?_ | refine e_new ?_ | refine e_ch ?_ | refine e_and ?_ | refine e_or ?_ | refine e_not ?_ | refine e_if ?_ | refine e_tup ?_ | refine e_lst ?_ | refine e_sl ?_ | refine e_app ?_
  | refine e_callR ?_ | refine e_call ?_ | refine e_comp ?_ | refine t_b1 ?_ | refine t_tr ?_ | refine t_an ?_ | refine t_or ?_ | refine t_no ?_ | refine t_true ?_ | refine a_nil ?_ | refine a_cons ?_ | refine a_pick ?_ | refine o_no ?_ | refine o_so ?_
  | refine s_nil ?_ | refine s_retn ?_ | refine s_brk ?_ | refine s_cnt ?_ | refine s_seq ?_ | refine s_set ?_ | refine s_expr ?_ | refine s_ret ?_ | refine s_if ?_ | refine s_asg ?_ | refine s_par ?_ | refine s_sub ?_ | refine s_for ?_ | refine f_fn ?_
  | refine n_then ?_ | refine n_thenr ?_ | refine n_thenb ?_ | refine n_thenc ?_ | refine n_endr ?_ | refine n_endn ?_ | refine n_turn ?_ | refine n_turnc ?_ | refine n_turnb ?_ | refine n_turnr ?_ | refine i_seq ?_ | refine i_zip ?_ | refine i_enm ?_ | refine i_rg1 ?_ | refine i_rg2 ?_
  | refine b_t ?_ | refine b_f ?_ | refine v_addI ?_ | refine v_sub ?_ | refine v_some ?_
  | refine v_mod (by first | assumption | decide | omega) ?_
  | refine v_div (by first | assumption | decide | omega) ?_
  | refine v_ix (by with_unfolding_all rfl) (by with_unfolding_all rfl) (by with_unfolding_all rfl) ?_
  | refine v_tupl (by with_unfolding_all rfl) ?_ | refine v_list (by with_unfolding_all rfl) ?_ | refine v_len (by with_unfolding_all rfl) (by with_unfolding_all rfl) ?_
  | refine v_mul (by first | assumption | exact okM_l (by decide) (by decide) | exact okM_r (by decide) (by decide) | exact okM_l (by omega) (by omega) | exact okM_r (by omega) (by omega)) ?_
  | refine v_mk (by with_unfolding_all rfl) ?_
  | refine Exists.intro _ (And.intro (by with_unfolding_all rfl) ?_)
  | refine And.intro (by first | assumption | (with_unfolding_all decide) | (with_unfolding_all rfl)) ?_
  | refine Exists.intro _ (Exists.intro _ (Exists.intro _ (And.intro (by with_unfolding_all rfl) (And.intro (by with_unfolding_all rfl) (And.intro (by with_unfolding_all rfl) ?_)))))
  | refine Exists.intro _ (Exists.intro _ (Exists.intro _ (Exists.intro _ (And.intro (by with_unfolding_all rfl) (And.intro (by with_unfolding_all rfl) (And.intro (by with_unfolding_all rfl) (And.intro (by with_unfolding_all rfl) ?_))))))))
/-! ### data of a bounded depth -/
def strOkD (x : Str) : Bool := PyData.strOk x && decide (x.length ≤ 4000)
def D.ok : Nat → D → Bool
  | _, .non => true
  | _, .bl _ => true
  | _, .int _ => true
  | _, .str x => strOkD x
  | n + 1, .tup xs => decide (xs.length ≤ 4000) && xs.all (D.ok n)
  | n + 1, .lst xs => decide (xs.length ≤ 4000) && xs.all (D.ok n)
  | _, _ => false
/-- .. with no bool within -/
def D.okn : Nat → D → Bool
  | _, .non => true
  | _, .int _ => true
  | _, .str x => strOkD x
  | n + 1, .tup xs => decide (xs.length ≤ 4000) && xs.all (D.okn n)
  | n + 1, .lst xs => decide (xs.length ≤ 4000) && xs.all (D.okn n)
  | _, _ => false
mutual
def pyOf : D → PyData
  | .bl b => .bool b
  | .int i => .int i
  | .str x => .str x
  | .tup xs => .tuple (pyOfs xs)
  | .lst xs => .list (pyOfs xs)
  | _ => .none
def pyOfs : List D → List PyData
  | [] => []
  | x :: xs => pyOf x :: pyOfs xs
end
theorem okn_ok : ∀ {n : Nat} {d : D}, D.okn n d = true → D.ok n d = true := by
  intro n
  induction n with
  | zero => intro d h; cases d <;> first | rfl | (exact h) | (cases h)
  | succ n ih =>
    intro d h
    cases d with
    | tup xs => simp only [D.okn, D.ok, Bool.and_eq_true, List.all_eq_true] at h ⊢; exact ⟨h.1, fun x hx => ih (h.2 x hx)⟩
    | lst xs => simp only [D.okn, D.ok, Bool.and_eq_true, List.all_eq_true] at h ⊢; exact ⟨h.1, fun x hx => ih (h.2 x hx)⟩
    | _ => first | rfl | (exact h) | (cases h)
theorem ok_tup {n : Nat} {xs : List D} : D.ok n (.tup xs) = true ↔ ∃ m, n = m + 1 ∧ xs.length ≤ 4000 ∧ ∀ x ∈ xs, D.ok m x = true := by
  cases n with
  | zero => simp [D.ok]
  | succ n => simp [D.ok]
theorem ok_lst {n : Nat} {xs : List D} : D.ok n (.lst xs) = true ↔ ∃ m, n = m + 1 ∧ xs.length ≤ 4000 ∧ ∀ x ∈ xs, D.ok m x = true := by
  cases n with
  | zero => simp [D.ok]
  | succ n => simp [D.ok]
theorem okn_tup {n : Nat} {xs : List D} : D.okn n (.tup xs) = true ↔ ∃ m, n = m + 1 ∧ xs.length ≤ 4000 ∧ ∀ x ∈ xs, D.okn m x = true := by
  cases n with
  | zero => simp [D.okn]
  | succ n => simp [D.okn]
theorem okn_lst {n : Nat} {xs : List D} : D.okn n (.lst xs) = true ↔ ∃ m, n = m + 1 ∧ xs.length ≤ 4000 ∧ ∀ x ∈ xs, D.okn m x = true := by
  cases n with
  | zero => simp [D.okn]
  | succ n => simp [D.okn]
theorem pures_of : ∀ {xs : List D}, (∀ x ∈ xs, D.pure x = true) → D.pures xs = true
  | [], _ => rfl
  | x :: xs, h => by simp only [D.pures, Bool.and_eq_true]; exact ⟨h x (by simp), pures_of fun y hy => h y (by simp [hy])⟩
theorem flats_of : ∀ {xs : List D}, (∀ x ∈ xs, D.flat x = true) → D.flats xs = true
  | [], _ => rfl
  | x :: xs, h => by simp only [D.flats, Bool.and_eq_true]; exact ⟨h x (by simp), flats_of fun y hy => h y (by simp [hy])⟩
theorem ok_pure : ∀ {n : Nat} {d : D}, D.ok n d = true → D.pure d = true := by
  intro n
  induction n with
  | zero => intro d h; cases d <;> first | rfl | (cases h)
  | succ n ih =>
    intro d h
    cases d with
    | tup xs => obtain ⟨m, e, _, h⟩ := ok_tup.mp h; cases e; simp only [D.pure]; exact pures_of fun x hx => ih (h x hx)
    | lst xs => obtain ⟨m, e, _, h⟩ := ok_lst.mp h; cases e; simp only [D.pure]; exact pures_of fun x hx => ih (h x hx)
    | _ => first | rfl | (cases h)
theorem py_ok : ∀ {n : Nat} {d : D}, D.ok n d = true → (∀ S, toPy S (n + 1) d = some (pyOf d)) ∧ (pyOf d).canLay0 = true ∧ (pyOf d).depth ≤ n := by
  intro n
  induction n with
  | zero =>
    intro d h
    cases d with
    | str x => have h : strOkD x = true := h; unfold strOkD at h; rw [Bool.and_eq_true] at h; exact ⟨fun S => rfl, h.1, Nat.le_refl _⟩
    | _ => first | (exact ⟨fun S => rfl, rfl, Nat.le_refl _⟩) | (cases h)
  | succ n ih =>
    have all : ∀ (xs : List D), (∀ x ∈ xs, D.ok n x = true) → (∀ S, xs.mapM (toPy S (n + 1)) = some (pyOfs xs)) ∧ PyData.canLayAll0 (pyOfs xs) = true ∧ PyData.depthAll (pyOfs xs) ≤ n := by
      intro xs
      induction xs with
      | nil => intro _; exact ⟨fun S => rfl, rfl, Nat.zero_le _⟩
      | cons x xs ih2 =>
        intro h
        obtain ⟨a1, a2, a3⟩ := ih (h x (by simp))
        obtain ⟨b1, b2, b3⟩ := ih2 fun y hy => h y (by simp [hy])
        refine ⟨fun S => ?_, ?_, ?_⟩
        · rw [List.mapM_cons, a1 S]; simp [b1 S, pyOfs]
        · simp [pyOfs, PyData.canLayAll0, a2, b2]
        · simp only [pyOfs, PyData.depthAll]; omega
    intro d h
    cases d with
    | str x => have h : strOkD x = true := h; unfold strOkD at h; rw [Bool.and_eq_true] at h; exact ⟨fun S => rfl, h.1, Nat.zero_le _⟩
    | tup xs =>
      obtain ⟨m, e, _, h⟩ := ok_tup.mp h
      cases e
      obtain ⟨b1, b2, b3⟩ := all xs h
      refine ⟨fun S => ?_, by simpa [pyOf, PyData.canLay0] using b2, by simp only [pyOf, PyData.depth]; omega⟩
      show (xs.mapM (toPy S (n + 1))).map PyData.tuple = _
      rw [b1 S]; rfl
    | lst xs =>
      obtain ⟨m, e, _, h⟩ := ok_lst.mp h
      cases e
      obtain ⟨b1, b2, b3⟩ := all xs h
      refine ⟨fun S => ?_, by simpa [pyOf, PyData.canLay0] using b2, by simp only [pyOf, PyData.depth]; omega⟩
      show (xs.mapM (toPy S (n + 1))).map PyData.list = _
      rw [b1 S]; rfl
    | _ => first | (exact ⟨fun S => rfl, rfl, Nat.zero_le _⟩) | (cases h)
theorem ok_mono : ∀ {n m : Nat} {d : D}, n ≤ m → D.ok n d = true → D.ok m d = true := by
  intro n
  induction n with
  | zero => intro m d _ h; cases d <;> first | (cases m <;> rfl) | (cases m <;> exact h) | (cases h)
  | succ n ih =>
    intro m d l h
    cases d with
    | tup xs => obtain ⟨k, e, z, h⟩ := ok_tup.mp h; cases e; exact ok_tup.mpr ⟨m - 1, by omega, z, fun x hx => ih (by omega) (h x hx)⟩
    | lst xs => obtain ⟨k, e, z, h⟩ := ok_lst.mp h; cases e; exact ok_lst.mpr ⟨m - 1, by omega, z, fun x hx => ih (by omega) (h x hx)⟩
    | _ => first | (cases m <;> rfl) | (cases m <;> exact h) | (cases h)
theorem eqD_at {n m : Nat} {x y : D} (hx : D.ok n x = true) (hy : D.ok m y = true) (S : Store) (hn : n ≤ 59 := by decide) (hm : m ≤ 59 := by decide) : eqD S x y = some (PyData.eqv (pyOf x) (pyOf y)) := by
  obtain ⟨a1, a2, a3⟩ := py_ok (ok_mono hn hx)
  obtain ⟨b1, b2, b3⟩ := py_ok (ok_mono hm hy)
  unfold eqD
  rw [a1 S, b1 S]
  dsimp only
  rw [if_pos]
  unfold SeqAt.shaped
  rw [a2, b2, decide_eq_true (by omega), decide_eq_true (by omega)]
  rfl
theorem eqv_beq : ∀ {n m : Nat} {x y : D}, D.okn n x = true → D.okn m y = true → PyData.eqv (pyOf x) (pyOf y) = D.beq x y := by
  intro n
  induction n with
  | zero =>
    intro m x y hx hy
    cases x <;> first
      | (cases hx; done)
      | (cases y <;> first | rfl | (cases m <;> cases hy; done))
  | succ n ih =>
    have all : ∀ (m : Nat) (xs ys : List D), (∀ x ∈ xs, D.okn n x = true) → (∀ x ∈ ys, D.okn m x = true) → PyData.eqvAll (pyOfs xs) (pyOfs ys) = D.beqs xs ys := by
      intro m xs
      induction xs with
      | nil => intro ys _ _; cases ys <;> rfl
      | cons x xs ih2 =>
        intro ys h1 h2
        cases ys with
        | nil => rfl
        | cons y ys =>
          show (PyData.eqv (pyOf x) (pyOf y) && PyData.eqvAll (pyOfs xs) (pyOfs ys)) = (D.beq x y && D.beqs xs ys)
          rw [ih (h1 x (by simp)) (h2 y (by simp)), ih2 ys (fun z hz => h1 z (by simp [hz])) (fun z hz => h2 z (by simp [hz]))]
    intro m x y hx hy
    cases x with
    | tup xs =>
      obtain ⟨k, e, _, h⟩ := okn_tup.mp hx
      cases e
      cases y with
      | tup ys => obtain ⟨j, e, _, h2⟩ := okn_tup.mp hy; exact all j xs ys h h2
      | _ => first | rfl | (cases m <;> cases hy; done)
    | lst xs =>
      obtain ⟨k, e, _, h⟩ := okn_lst.mp hx
      cases e
      cases y with
      | lst ys => obtain ⟨j, e, _, h2⟩ := okn_lst.mp hy; exact all j xs ys h h2
      | _ => first | rfl | (cases m <;> cases hy; done)
    | _ => first
      | (cases hx; done)
      | (cases y <;> first | rfl | (cases m <;> cases hy; done))
instance : DecidableEq D := fun x y => if h : D.beq x y = true then isTrue (D.beq_eq h) else isFalse fun e => h (e ▸ D.beq_refl x)
theorem beq_dec {x y : D} : D.beq x y = decide (x = y) := by
  by_cases h : x = y
  · subst h; rw [D.beq_refl, decide_eq_true rfl]
  · rw [decide_eq_false h]
    cases e : D.beq x y with
    | false => rfl
    | true => exact absurd (D.beq_eq e) h
/-- == of data without bools -/
theorem v_eq {n m : Nat} {x y : D} {S : Store} {R : D → Prop} (hx : D.okn n x = true) (hy : D.okn m y = true) (q : R (.bl (D.beq x y))) (hn : n ≤ 59 := by decide) (hm : m ≤ 59 := by decide) : wV (fEq S x y) R :=
  ⟨_, by unfold fEq; rw [eqD_at (okn_ok hx) (okn_ok hy) S hn hm, eqv_beq hx hy]; rfl, q⟩
theorem v_ne {n m : Nat} {x y : D} {S : Store} {R : D → Prop} (hx : D.okn n x = true) (hy : D.okn m y = true) (q : R (.bl (!D.beq x y))) (hn : n ≤ 59 := by decide) (hm : m ≤ 59 := by decide) : wV (fNe S x y) R :=
  ⟨_, by unfold fNe; rw [eqD_at (okn_ok hx) (okn_ok hy) S hn hm, eqv_beq hx hy]; rfl, q⟩
theorem v_eqI {i j : Int} {S : Store} {R : D → Prop} (q : R (.bl (decide (i = j)))) : wV (fEq S (.int i) (.int j)) R := by
  refine v_eq (n := 0) (m := 0) rfl rfl ?_
  rw [beq_dec]
  simpa using q
theorem v_neI {i j : Int} {S : Store} {R : D → Prop} (q : R (.bl (!decide (i = j)))) : wV (fNe S (.int i) (.int j)) R := by
  refine v_ne (n := 0) (m := 0) rfl rfl ?_
  rw [beq_dec]
  simpa using q
end MM
set_option maxRecDepth 100000
set_option maxHeartbeats 1000000
namespace MM
open PySem PySem.Spec PyProof.Rows L2
local instance tab_Mm21 : Tabl := tab0
local macro_rules | `(tactic| walk_at "w") => `(tactic| with_reducible first
  | refine e_var (by with_unfolding_all rfl) ?_ | refine e_c ?_ | refine e_m2 ?_ | refine e_m1 ?_ | refine e_new ?_ | refine e_ch ?_ | refine e_and ?_ | refine e_or ?_ | refine e_not ?_ | refine e_if ?_ | refine e_tup ?_ | refine e_lst ?_ | refine e_sl ?_ | refine e_app ?_
  | refine e_callR ?_ | refine e_call ?_ | refine e_comp ?_ | refine t_b1 ?_ | refine t_tr ?_ | refine t_an ?_ | refine t_or ?_ | refine t_no ?_ | refine t_true ?_ | refine a_nil ?_ | refine a_cons ?_ | refine a_pick ?_ | refine o_no ?_ | refine o_so ?_
  | refine s_nil ?_ | refine s_retn ?_ | refine s_brk ?_ | refine s_cnt ?_ | refine s_seq ?_ | refine s_set ?_ | refine s_expr ?_ | refine s_ret ?_ | refine s_if ?_ | refine s_asg ?_ | refine s_par ?_ | refine s_sub ?_ | refine s_for ?_ | refine f_fn ?_
  | refine n_then ?_ | refine n_thenr ?_ | refine n_thenb ?_ | refine n_thenc ?_ | refine n_endr ?_ | refine n_endn ?_ | refine n_turn ?_ | refine n_turnc ?_ | refine n_turnb ?_ | refine n_turnr ?_ | refine i_seq ?_ | refine i_zip ?_ | refine i_enm ?_ | refine i_rg1 ?_ | refine i_rg2 ?_
  | refine b_t ?_ | refine b_f ?_ | refine v_addI ?_ | refine v_sub ?_ | refine v_some ?_
  | refine v_mod (by first | assumption | decide | omega) ?_
  | refine v_div (by first | assumption | decide | omega) ?_
  | refine v_ix (by with_unfolding_all rfl) (by with_unfolding_all rfl) (by with_unfolding_all rfl) ?_
  | refine v_tupl (by with_unfolding_all rfl) ?_ | refine v_list (by with_unfolding_all rfl) ?_ | refine v_len (by with_unfolding_all rfl) (by with_unfolding_all rfl) ?_
  | refine v_mul (by first | assumption | exact okM_l (by decide) (by decide) | exact okM_r (by decide) (by decide) | exact okM_l (by omega) (by omega) | exact okM_r (by omega) (by omega)) ?_
  | refine v_mk (by with_unfolding_all rfl) ?_
  | refine Exists.intro _ (And.intro (by with_unfolding_all rfl) ?_)
  | refine And.intro (by first | assumption | (with_unfolding_all decide) | (with_unfolding_all rfl)) ?_
  | refine Exists.intro _ (Exists.intro _ (Exists.intro _ (And.intro (by with_unfolding_all rfl) (And.intro (by with_unfolding_all rfl) (And.intro (by with_unfolding_all rfl) ?_)))))
  | refine Exists.intro _ (Exists.intro _ (Exists.intro _ (Exists.intro _ (And.intro (by with_unfolding_all rfl) (And.intro (by with_unfolding_all rfl) (And.intro (by with_unfolding_all rfl) (And.intro (by with_unfolding_all rfl) ?_))))))))
mutual
/-- lists become tuples -/
def tupD : D → D
  | .tup xs => .tup (tupDs xs)
  | .lst xs => .tup (tupDs xs)
  | d => d
def tupDs : List D → List D
  | [] => []
  | x :: xs => tupD x :: tupDs xs
end
mutual
/-- tuples become lists -/
def lisD : D → D
  | .tup xs => .lst (lisDs xs)
  | .lst xs => .lst (lisDs xs)
  | d => d
def lisDs : List D → List D
  | [] => []
  | x :: xs => lisD x :: lisDs xs
end
theorem tupDs_map : ∀ xs : List D, tupDs xs = xs.map tupD
  | [] => rfl
  | x :: xs => by rw [tupDs, tupDs_map xs]; rfl
theorem lisDs_map : ∀ xs : List D, lisDs xs = xs.map lisD
  | [] => rfl
  | x :: xs => by rw [lisDs, lisDs_map xs]; rfl
@[simp] theorem tupD_tup {xs : List D} : tupD (.tup xs) = .tup (xs.map tupD) := by rw [tupD, tupDs_map]
@[simp] theorem tupD_lst {xs : List D} : tupD (.lst xs) = .tup (xs.map tupD) := by rw [tupD, tupDs_map]
@[simp] theorem lisD_tup {xs : List D} : lisD (.tup xs) = .lst (xs.map lisD) := by rw [lisD, lisDs_map]
@[simp] theorem lisD_lst {xs : List D} : lisD (.lst xs) = .lst (xs.map lisD) := by rw [lisD, lisDs_map]
@[simp] theorem tupD_int {i : Int} : tupD (.int i) = .int i := rfl
@[simp] theorem tupD_str {i : Str} : tupD (.str i) = .str i := rfl
@[simp] theorem tupD_bl {i : Bool} : tupD (.bl i) = .bl i := rfl
@[simp] theorem tupD_non : tupD .non = .non := rfl
@[simp] theorem lisD_int {i : Int} : lisD (.int i) = .int i := rfl
@[simp] theorem lisD_str {i : Str} : lisD (.str i) = .str i := rfl
@[simp] theorem lisD_bl {i : Bool} : lisD (.bl i) = .bl i := rfl
@[simp] theorem lisD_non : lisD .non = .non := rfl
@[simp] theorem tup_lis : ∀ {n : Nat} {d : D}, D.ok n d = true → tupD (lisD d) = tupD d := by
  intro n
  induction n with
  | zero => intro d h; cases d <;> first | rfl | (cases h)
  | succ n ih =>
    intro d h
    cases d with
    | tup xs => obtain ⟨m, e, _, h⟩ := ok_tup.mp h; cases e; simp; exact fun x hx => ih (h x hx)
    | lst xs => obtain ⟨m, e, _, h⟩ := ok_lst.mp h; cases e; simp; exact fun x hx => ih (h x hx)
    | _ => first | rfl | (cases h)
theorem ok_tupD : ∀ {n : Nat} {d : D}, D.ok n d = true → D.ok n (tupD d) = true := by
  intro n
  induction n with
  | zero => intro d h; cases d <;> first | rfl | (exact h) | (cases h)
  | succ n ih =>
    intro d h
    cases d with
    | tup xs => obtain ⟨m, e, z, h⟩ := ok_tup.mp h; cases e; rw [tupD_tup]; exact ok_tup.mpr ⟨n, rfl, by simpa using z, by simpa using fun x hx => ih (h x hx)⟩
    | lst xs => obtain ⟨m, e, z, h⟩ := ok_lst.mp h; cases e; rw [tupD_lst]; exact ok_tup.mpr ⟨n, rfl, by simpa using z, by simpa using fun x hx => ih (h x hx)⟩
    | _ => first | rfl | (exact h) | (cases h)
theorem ok_lisD : ∀ {n : Nat} {d : D}, D.ok n d = true → D.ok n (lisD d) = true := by
  intro n
  induction n with
  | zero => intro d h; cases d <;> first | rfl | (exact h) | (cases h)
  | succ n ih =>
    intro d h
    cases d with
    | tup xs => obtain ⟨m, e, z, h⟩ := ok_tup.mp h; cases e; rw [lisD_tup]; exact ok_lst.mpr ⟨n, rfl, by simpa using z, by simpa using fun x hx => ih (h x hx)⟩
    | lst xs => obtain ⟨m, e, z, h⟩ := ok_lst.mp h; cases e; rw [lisD_lst]; exact ok_lst.mpr ⟨n, rfl, by simpa using z, by simpa using fun x hx => ih (h x hx)⟩
    | _ => first | rfl | (exact h) | (cases h)
theorem rg_ret {d : D} (h : D.pure d = true) : frzD [] 30 d = some d := frz_pure h
theorem pures1 {d : D} (h : D.pure d = true) : D.pures [d] = true := by simp [D.pures, h]
theorem pures2 {d c : D} (h : D.pure d = true) (h2 : D.pure c = true) : D.pures [d, c] = true := by simp [D.pures, h, h2]
theorem still_nil {S : Store} {xs : List D} : still S ⟨xs, []⟩ = true := rfl
theorem map_id_eq {xs : List D} : xs = xs.map id := by simp
theorem tupled_ok : ∀ {n : Nat} {d : D}, D.ok n d = true → Rg (c_tupled (n + 1)) [d] (tupD d) := by
  have seq : ∀ (n : Nat), (∀ {d : D}, D.ok n d = true → Rg (c_tupled (n + 1)) [d] (tupD d)) → ∀ {d : D} {xs : List D}, (d = .tup xs ∨ d = .lst xs) → xs.length ≤ 4000 → (∀ x ∈ xs, D.ok n x = true) → D.ok (n + 1) (tupD d) = true → tupD d = .tup (xs.map tupD) → Rg (c_tupled (n + 2)) [d] (tupD d) := by
    intro n ih d xs hd hl hx hok ht
    unfold Rg c_tupled
    have h0 : ∀ S, fIsi2 [.lst, .tup] S d = some (.bl true) := fun S => by rcases hd with h | h <;> subst h <;> rfl
    have h1 : ∀ S, itsOf S d = some ⟨xs, []⟩ := fun S => by rcases hd with h | h <;> subst h <;> rfl
    repeat walk_at "w"
    refine v_mk (h0 _) ?_
    repeat walk_at "w"
    refine v_mk (h1 _) ?_
    refine ⟨hl, ?_⟩
    rw [show (⟨xs, []⟩ : Its).items = xs.map id from map_id_eq]
    refine wK_map0 (g := tupD) still_nil xs [] (fun x hm => ⟨_, rfl, ?_⟩) ?_
    · repeat walk_at "w"
      exact wC_pure (ih (hx x hm)) (pures1 (ok_pure (hx x hm))) ⟨rfl, rfl⟩
    · repeat walk_at "w"
      show frzD [] 30 (.tup ([] ++ xs.map tupD)) = _
      rw [List.nil_append, ← ht]
      exact frz_pure (ok_pure hok)
  have base : ∀ (n : Nat) (d : D), fIsi2 [.lst, .tup] [] d = some (.bl false) → D.pure d = true → tupD d = d → Rg (c_tupled (n + 1)) [d] (tupD d) := by
    intro n d h0 hp ht
    unfold Rg c_tupled
    repeat walk_at "w"
    refine v_mk h0 ?_
    repeat walk_at "w"
    rw [ht]
    exact frz_pure hp
  intro n
  induction n with
  | zero => intro d h; cases d <;> first | (cases h; done) | exact base 0 _ rfl rfl rfl
  | succ n ih =>
    intro d h
    have hok := ok_tupD h
    cases d with
    | tup xs => obtain ⟨m, e, z, h⟩ := ok_tup.mp h; cases e; exact seq n ih (.inl rfl) z h hok tupD_tup
    | lst xs => obtain ⟨m, e, z, h⟩ := ok_lst.mp h; cases e; exact seq n ih (.inr rfl) z h hok tupD_lst
    | _ => first | (cases h; done) | exact base _ _ rfl rfl rfl
theorem lists_ok : ∀ {n : Nat} {d : D}, D.ok n d = true → Rg (c_law_lists (n + 1)) [d] (lisD d) := by
  have seq : ∀ (n : Nat), (∀ {d : D}, D.ok n d = true → Rg (c_law_lists (n + 1)) [d] (lisD d)) → ∀ {d : D} {xs : List D}, (d = .tup xs ∨ d = .lst xs) → xs.length ≤ 4000 → (∀ x ∈ xs, D.ok n x = true) → D.ok (n + 1) (lisD d) = true → lisD d = .lst (xs.map lisD) → Rg (c_law_lists (n + 2)) [d] (lisD d) := by
    intro n ih d xs hd hl hx hok ht
    unfold Rg c_law_lists
    have h0 : ∀ S, fIsi2 [.lst, .tup] S d = some (.bl true) := fun S => by rcases hd with h | h <;> subst h <;> rfl
    have h1 : ∀ S, itsOf S d = some ⟨xs, []⟩ := fun S => by rcases hd with h | h <;> subst h <;> rfl
    repeat walk_at "w"
    refine v_mk (h0 _) ?_
    repeat walk_at "w"
    refine v_mk (h1 _) ?_
    refine ⟨hl, ?_⟩
    rw [show (⟨xs, []⟩ : Its).items = xs.map id from map_id_eq]
    refine wK_map0 (g := lisD) still_nil xs [] (fun x hm => ⟨_, rfl, ?_⟩) ?_
    · repeat walk_at "w"
      exact wC_pure (ih (hx x hm)) (pures1 (ok_pure (hx x hm))) ⟨rfl, rfl⟩
    · repeat walk_at "w"
      show frzD [] 30 (.lst ([] ++ xs.map lisD)) = _
      rw [List.nil_append, ← ht]
      exact frz_pure (ok_pure hok)
  have base : ∀ (n : Nat) (d : D), fIsi2 [.lst, .tup] [] d = some (.bl false) → D.pure d = true → lisD d = d → Rg (c_law_lists (n + 1)) [d] (lisD d) := by
    intro n d h0 hp ht
    unfold Rg c_law_lists
    repeat walk_at "w"
    refine v_mk h0 ?_
    repeat walk_at "w"
    rw [ht]
    exact frz_pure hp
  intro n
  induction n with
  | zero => intro d h; cases d <;> first | (cases h; done) | exact base 0 _ rfl rfl rfl
  | succ n ih =>
    intro d h
    have hok := ok_lisD h
    cases d with
    | tup xs => obtain ⟨m, e, z, h⟩ := ok_tup.mp h; cases e; exact seq n ih (.inl rfl) z h hok lisD_tup
    | lst xs => obtain ⟨m, e, z, h⟩ := ok_lst.mp h; cases e; exact seq n ih (.inr rfl) z h hok lisD_lst
    | _ => first | (cases h; done) | exact base _ _ rfl rfl rfl
end MM
set_option maxRecDepth 100000
set_option maxHeartbeats 1000000
namespace MM
open PySem PySem.Spec PyProof.Rows L2
local instance tab_Mm22 : Tabl := tab0
local macro_rules | `(tactic| walk_at "w") => `(tactic| with_reducible first
  | refine e_var (by with_unfolding_all rfl) ?_ | refine e_c ?_ | refine e_m2 ?_ | refine e_m1 ?_ | refine e_new ?_ | refine e_ch ?_ | refine e_and ?_ | refine e_or ?_ | refine e_not ?_ | refine e_if ?_ | refine e_tup ?_ | refine e_lst ?_ | refine e_sl ?_ | refine e_app ?_
  | refine e_callR ?_ | refine e_call ?_ | refine e_comp ?_ | refine t_b1 ?_ | refine t_tr ?_ | refine t_an ?_ | refine t_or ?_ | refine t_no ?_ | refine t_true ?_ | refine a_nil ?_ | refine a_cons ?_ | refine a_pick ?_ | refine o_no ?_ | refine o_so ?_
  | refine s_nil ?_ | refine s_retn ?_ | refine s_brk ?_ | refine s_cnt ?_ | refine s_seq ?_ | refine s_set ?_ | refine s_expr ?_ | refine s_ret ?_ | refine s_if ?_ | refine s_asg ?_ | refine s_par ?_ | refine s_sub ?_ | refine s_for ?_ | refine f_fn ?_
  | refine n_then ?_ | refine n_thenr ?_ | refine n_thenb ?_ | refine n_thenc ?_ | refine n_endr ?_ | refine n_endn ?_ | refine n_turn ?_ | refine n_turnc ?_ | refine n_turnb ?_ | refine n_turnr ?_ | refine i_seq ?_ | refine i_zip ?_ | refine i_enm ?_ | refine i_rg1 ?_ | refine i_rg2 ?_
  | refine b_t ?_ | refine b_f ?_ | refine v_addI ?_ | refine v_sub ?_ | refine v_some ?_
  | refine v_mod (by first | assumption | decide | omega) ?_
  | refine v_div (by first | assumption | decide | omega) ?_
  | refine v_ix (by with_unfolding_all rfl) (by with_unfolding_all rfl) (by with_unfolding_all rfl) ?_
  | refine v_tupl (by with_unfolding_all rfl) ?_ | refine v_list (by with_unfolding_all rfl) ?_ | refine v_len (by with_unfolding_all rfl) (by with_unfolding_all rfl) ?_
  | refine v_mul (by first | assumption | exact okM_l (by decide) (by decide) | exact okM_r (by decide) (by decide) | exact okM_l (by omega) (by omega) | exact okM_r (by omega) (by omega)) ?_
  | refine v_eqI ?_ | refine v_neI ?_ | refine v_mk (by with_unfolding_all rfl) ?_
  | refine Exists.intro _ (And.intro (by with_unfolding_all rfl) ?_)
  | refine And.intro (by first | assumption | (with_unfolding_all decide) | (with_unfolding_all rfl)) ?_
  | refine Exists.intro _ (Exists.intro _ (Exists.intro _ (And.intro (by with_unfolding_all rfl) (And.intro (by with_unfolding_all rfl) (And.intro (by with_unfolding_all rfl) ?_)))))
  | refine Exists.intro _ (Exists.intro _ (Exists.intro _ (Exists.intro _ (And.intro (by with_unfolding_all rfl) (And.intro (by with_unfolding_all rfl) (And.intro (by with_unfolding_all rfl) (And.intro (by with_unfolding_all rfl) ?_)))))))
  | refine b_eq (z := true) (by with_unfolding_all rfl) ?_ | refine b_eq (z := false) (by with_unfolding_all rfl) ?_)
theorem v_eq_ok {n m : Nat} {x y : D} {S : Store} {R : D → Prop} (hx : D.ok n x = true) (hy : D.ok m y = true) (q : R (.bl (PyData.eqv (pyOf x) (pyOf y)))) (hn : n ≤ 59) (hm : m ≤ 59) : wV (fEq S x y) R :=
  ⟨_, by unfold fEq; rw [eqD_at hx hy S hn hm]; rfl, q⟩
theorem zipD_eq : ∀ (xs ys : List D), zipD xs ys = (xs.zip ys).map fun p => .tup [p.1, p.2]
  | [], _ => by cases ‹List D› <;> rfl
  | _ :: _, [] => rfl
  | x :: xs, y :: ys => by rw [zipD, zipD_eq xs ys]; rfl
theorem mapM_bl {α : Type} {f : α → Bool} : ∀ l : List α, (l.map fun x => D.bl (f x)).mapM blD = some (l.map f)
  | [] => rfl
  | x :: l => by rw [List.map_cons, List.mapM_cons, mapM_bl l]; rfl
theorem v_all {α : Type} {f : α → Bool} {l : List α} {S : Store} {R : D → Prop} (q : R (.bl (l.all f))) : wV (fAll S (.lst (l.map fun x => D.bl (f x)))) R := by
  refine ⟨_, ?_, q⟩
  show ((l.map fun x => D.bl (f x)).mapM blD).map (fun bs => D.bl (bs.all id)) = _
  rw [mapM_bl]
  simp
theorem v_any {α : Type} {f : α → Bool} {l : List α} {S : Store} {R : D → Prop} (q : R (.bl (l.any f))) : wV (fAny S (.lst (l.map fun x => D.bl (f x)))) R := by
  refine ⟨_, ?_, q⟩
  show ((l.map fun x => D.bl (f x)).mapM blD).map (fun bs => D.bl (bs.any id)) = _
  rw [mapM_bl]
  simp
theorem beqs_zip : ∀ {xs ys : List D}, xs.length = ys.length → ((xs.zip ys).all fun p => D.beq p.1 p.2) = D.beqs xs ys
  | [], [], _ => rfl
  | x :: xs, y :: ys, h => by simp only [List.zip_cons_cons, List.all_cons, D.beqs]; rw [beqs_zip (by simpa using h)]
theorem beqs_len : ∀ {xs ys : List D}, xs.length ≠ ys.length → D.beqs xs ys = false
  | [], [], h => absurd rfl h
  | [], _ :: _, _ => rfl
  | _ :: _, [], _ => rfl
  | x :: xs, y :: ys, h => by simp only [D.beqs]; rw [beqs_len (by simpa using h)]; simp
theorem same_seq {n : Nat} (ih : ∀ {x y : D}, D.ok n x = true → D.ok n y = true → Rg (c_law_same (n + 1)) [x, y] (.bl (D.beq x y))) {xs ys : List D} {x y : D} (hk : (x = .tup xs ∧ y = .tup ys) ∨ (x = .lst xs ∧ y = .lst ys))
    (hl : xs.length ≤ 4000) (hx : ∀ x ∈ xs, D.ok n x = true) (hy : ∀ x ∈ ys, D.ok n x = true) (hb : D.beq x y = D.beqs xs ys) : Rg (c_law_same (n + 2)) [x, y] (.bl (D.beq x y)) := by
  have h0 : ∀ S, fIsi2 [.lst, .tup] S y = some (.bl true) := fun S => by rcases hk with ⟨_, h⟩ | ⟨_, h⟩ <;> subst h <;> rfl
  have h1 : ∀ S, ∃ k, fIsi .lst S x = some (.bl k) ∧ fIsi .lst S y = some (.bl k) := fun S => by rcases hk with ⟨h, h'⟩ | ⟨h, h'⟩ <;> subst h h' <;> exact ⟨_, rfl, rfl⟩
  have h2 : ∀ S, ∃ k, fIsi .tup S x = some (.bl k) ∧ fIsi .tup S y = some (.bl k) := fun S => by rcases hk with ⟨h, h'⟩ | ⟨h, h'⟩ <;> subst h h' <;> exact ⟨_, rfl, rfl⟩
  have h3 : ∀ S, seqOf S x = some xs ∧ seqOf S y = some ys ∧ isStrD x = false ∧ isStrD y = false := fun S => by rcases hk with ⟨h, h'⟩ | ⟨h, h'⟩ <;> subst h h' <;> exact ⟨rfl, rfl, rfl, rfl⟩
  have h4 : ∀ S, zipIt S x y = some ⟨zipD xs ys, []⟩ := fun S => by rcases hk with ⟨h, h'⟩ | ⟨h, h'⟩ <;> subst h h' <;> rfl
  have hne : ∀ (S : Store) (k : Bool), fNe S (.bl k) (.bl k) = some (.bl false) := fun S k => by cases k <;> rfl
  unfold Rg c_law_same
  repeat walk_at "w"
  refine v_mk (h0 _) ?_
  repeat walk_at "w"
  obtain ⟨k1, q1, q2⟩ := h1 []
  refine v_mk q1 ?_
  repeat walk_at "w"
  refine v_mk q2 (v_mk (hne _ _) ?_)
  repeat walk_at "w"
  obtain ⟨k2, q3, q4⟩ := h2 []
  refine v_mk q3 ?_
  repeat walk_at "w"
  refine v_mk q4 (v_mk (hne _ _) ?_)
  repeat walk_at "w"
  refine v_len (h3 _).1 (h3 []).2.2.1 ?_
  repeat walk_at "w"
  refine v_len (h3 _).2.1 (h3 []).2.2.2 ?_
  repeat walk_at "w"
  refine (b_d (fun hlen => ?_) (fun hlen => ?_))
  · repeat walk_at "w"
    refine v_mk (h4 _) ?_
    have hlen : xs.length = ys.length := by omega
    refine ⟨by simp [zipD_eq]; omega, ?_⟩
    show wK _ _ _ _ _ (zipD xs ys) _ _ _
    rw [zipD_eq]
    refine wK_map0 (g := fun p => .bl (D.beq p.1 p.2)) rfl _ [] (fun p hp => ⟨_, rfl, ?_⟩) ?_
    · have hp1 := List.of_mem_zip (show (p.1, p.2) ∈ xs.zip ys from hp)
      repeat walk_at "w"
      exact wC_pure (ih (hx _ hp1.1) (hy _ hp1.2)) (pures2 (ok_pure (hx _ hp1.1)) (ok_pure (hy _ hp1.2))) ⟨rfl, rfl⟩
    · rw [List.nil_append]
      refine v_all ?_
      rw [beqs_zip hlen, ← hb]
      repeat walk_at "w"
      rfl
  · repeat walk_at "w"
    rw [hb, beqs_len (by omega), decide_eq_false hlen]
    rfl
theorem same_int {n : Nat} {i : Int} : ∀ {x : D}, D.ok n x = true → Rg (c_law_same (n + 1)) [x, .int i] (.bl (D.beq x (.int i)))
  | x, hx => by
    unfold Rg c_law_same
    cases x with
    | int j =>
      repeat walk_at "w"
      show some (D.bl (decide (j = i))) = some (D.bl (j == i))
      by_cases h : j = i <;> simp [h]
    | tup xs => (repeat walk_at "w"); rfl
    | lst xs => (repeat walk_at "w"); rfl
    | str xs => (repeat walk_at "w"); rfl
    | non => (repeat walk_at "w"); rfl
    | bl b => (repeat walk_at "w"); rfl
    | _ => cases n <;> cases hx
theorem same_non {n : Nat} : ∀ {x : D}, n ≤ 59 → D.ok n x = true → Rg (c_law_same (n + 1)) [x, .non] (.bl (D.beq x .non))
  | x, hn, hx => by
    unfold Rg c_law_same
    have q := fun {R : D → Prop} {S : Store} => v_eq_ok (S := S) (R := R) hx (show D.ok 0 .non = true from rfl)
    cases x with
    | tup xs => (repeat walk_at "w"); refine q ?_ hn (by decide); (repeat walk_at "w"); rfl
    | lst xs => (repeat walk_at "w"); refine q ?_ hn (by decide); (repeat walk_at "w"); rfl
    | str xs => (repeat walk_at "w"); refine q ?_ hn (by decide); (repeat walk_at "w"); rfl
    | non => (repeat walk_at "w"); rfl
    | bl b => (repeat walk_at "w"); rfl
    | int b => (repeat walk_at "w"); rfl
    | _ => cases n <;> cases hx
theorem same_bl {n : Nat} {k : Bool} : ∀ {x : D}, n ≤ 59 → D.ok n x = true → Rg (c_law_same (n + 1)) [x, .bl k] (.bl (D.beq x (.bl k)))
  | x, hn, hx => by
    unfold Rg c_law_same
    have q := fun {R : D → Prop} {S : Store} => v_eq_ok (S := S) (R := R) hx (show D.ok 0 (.bl k) = true from rfl)
    cases x with
    | tup xs => (repeat walk_at "w"); refine q ?_ hn (by decide); (repeat walk_at "w"); rfl
    | lst xs => (repeat walk_at "w"); refine q ?_ hn (by decide); (repeat walk_at "w"); rfl
    | str xs => (repeat walk_at "w"); refine q ?_ hn (by decide); (repeat walk_at "w"); rfl
    | non => (repeat walk_at "w"); rfl
    | bl b => cases b <;> cases k <;> ((repeat walk_at "w"); rfl)
    | int b =>
      (repeat walk_at "w")
      refine b_k (fun hk => ?_) (fun hk => ?_)
      · (repeat walk_at "w"); rfl
      · (repeat walk_at "w"); rw [hk]; rfl
    | _ => cases n <;> cases hx
theorem same_str {n : Nat} {k : Str} (hk : strOkD k = true) : ∀ {x : D}, n ≤ 59 → D.ok n x = true → Rg (c_law_same (n + 1)) [x, .str k] (.bl (D.beq x (.str k)))
  | x, hn, hx => by
    unfold Rg c_law_same
    have q := fun {R : D → Prop} {S : Store} => v_eq_ok (S := S) (R := R) hx (show D.ok 0 (.str k) = true from hk)
    cases x with
    | tup xs => (repeat walk_at "w"); refine q ?_ hn (by decide); (repeat walk_at "w"); rfl
    | lst xs => (repeat walk_at "w"); refine q ?_ hn (by decide); (repeat walk_at "w"); rfl
    | str xs =>
      (repeat walk_at "w"); refine q ?_ hn (by decide); (repeat walk_at "w")
      refine b_k (fun hk => ?_) (fun hk => ?_)
      · (repeat walk_at "w"); rw [show D.beq (.str xs) (.str k) = true from hk]; rfl
      · (repeat walk_at "w"); rw [hk, show D.beq (.str xs) (.str k) = false from hk]; rfl
    | non => (repeat walk_at "w"); refine q ?_ hn (by decide); (repeat walk_at "w"); rfl
    | bl b => (repeat walk_at "w"); refine q ?_ hn (by decide); (repeat walk_at "w"); rfl
    | int b => (repeat walk_at "w"); refine q ?_ hn (by decide); (repeat walk_at "w"); rfl
    | _ => cases n <;> cases hx
/-- a list against what is none of its kind -/
theorem same_lst {n : Nat} {ys : List D} : ∀ {x : D}, D.ok n x = true → (∀ xs, x ≠ .lst xs) → Rg (c_law_same (n + 1)) [x, .lst ys] (.bl (D.beq x (.lst ys)))
  | x, hx, ne => by
    unfold Rg c_law_same
    cases x with
    | lst xs => exact absurd rfl (ne xs)
    | tup xs => (repeat walk_at "w"); rfl
    | str xs => (repeat walk_at "w"); rfl
    | non => (repeat walk_at "w"); rfl
    | bl b => (repeat walk_at "w"); rfl
    | int b => (repeat walk_at "w"); rfl
    | _ => cases n <;> cases hx
theorem same_tup {n : Nat} {ys : List D} : ∀ {x : D}, D.ok n x = true → (∀ xs, x ≠ .tup xs) → Rg (c_law_same (n + 1)) [x, .tup ys] (.bl (D.beq x (.tup ys)))
  | x, hx, ne => by
    unfold Rg c_law_same
    cases x with
    | tup xs => exact absurd rfl (ne xs)
    | lst xs => (repeat walk_at "w"); rfl
    | str xs => (repeat walk_at "w"); rfl
    | non => (repeat walk_at "w"); rfl
    | bl b => (repeat walk_at "w"); rfl
    | int b => (repeat walk_at "w"); rfl
    | _ => cases n <;> cases hx
theorem same_ok : ∀ {n : Nat}, n ≤ 59 → ∀ {x y : D}, D.ok n x = true → D.ok n y = true → Rg (c_law_same (n + 1)) [x, y] (.bl (D.beq x y)) := by
  intro n
  induction n with
  | zero =>
    intro hn x y hx hy
    cases y with
    | non => exact same_non hn hx
    | bl b => exact same_bl hn hx
    | int i => exact same_int hx
    | str s => exact same_str hy hn hx
    | _ => cases hy
  | succ n ih =>
    intro hn x y hx hy
    cases y with
    | non => exact same_non hn hx
    | bl b => exact same_bl hn hx
    | int i => exact same_int hx
    | str s => exact same_str hy hn hx
    | tup ys =>
      obtain ⟨m, e, z, h⟩ := ok_tup.mp hy
      cases e
      by_cases hk : ∃ xs, x = .tup xs
      · obtain ⟨xs, rfl⟩ := hk
        obtain ⟨m, e, z2, h2⟩ := ok_tup.mp hx
        cases e
        exact same_seq (fun a b => ih (by omega) a b) (.inl ⟨rfl, rfl⟩) z2 h2 h rfl
      · exact same_tup hx fun xs e => hk ⟨xs, e⟩
    | lst ys =>
      obtain ⟨m, e, z, h⟩ := ok_lst.mp hy
      cases e
      by_cases hk : ∃ xs, x = .lst xs
      · obtain ⟨xs, rfl⟩ := hk
        obtain ⟨m, e, z2, h2⟩ := ok_lst.mp hx
        cases e
        exact same_seq (fun a b => ih (by omega) a b) (.inr ⟨rfl, rfl⟩) z2 h2 h rfl
      · exact same_lst hx fun xs e => hk ⟨xs, e⟩
    | _ => cases hy
end MM
set_option maxRecDepth 100000
set_option maxHeartbeats 1000000
namespace MM
open PySem PySem.Spec PyProof.Rows L2
local instance tab_Mm23 : Tabl := tab0
local macro_rules | `(tactic| walk_at "w") => `(tactic| with_reducible first
  | refine e_var (by with_unfolding_all rfl) ?_ | refine e_c ?_ | refine e_m2 ?_ | refine e_m1 ?_ | refine e_new ?_ | refine e_ch ?_ | refine e_and ?_ | refine e_or ?_ | refine e_not ?_ | refine e_if ?_ | refine e_tup ?_ | refine e_lst ?_ | refine e_sl ?_ | refine e_app ?_
  | refine e_callR ?_ | refine e_call ?_ | refine e_comp ?_ | refine t_b1 ?_ | refine t_tr ?_ | refine t_an ?_ | refine t_or ?_ | refine t_no ?_ | refine t_true ?_ | refine a_nil ?_ | refine a_cons ?_ | refine a_pick ?_ | refine o_no ?_ | refine o_so ?_
  | refine s_nil ?_ | refine s_retn ?_ | refine s_brk ?_ | refine s_cnt ?_ | refine s_seq ?_ | refine s_set ?_ | refine s_expr ?_ | refine s_ret ?_ | refine s_if ?_ | refine s_asg ?_ | refine s_par ?_ | refine s_sub ?_ | refine f_fn ?_
  | refine n_then ?_ | refine n_thenr ?_ | refine n_thenb ?_ | refine n_thenc ?_ | refine n_endr ?_ | refine n_endn ?_ | refine n_turn ?_ | refine n_turnc ?_ | refine n_turnb ?_ | refine n_turnr ?_ | refine i_seq ?_ | refine i_zip ?_ | refine i_enm ?_ | refine i_rg1 ?_ | refine i_rg2 ?_
  | refine b_t ?_ | refine b_f ?_ | refine v_addI ?_ | refine v_sub ?_ | refine v_some ?_
  | refine v_mod (by first | assumption | decide | omega) ?_
  | refine v_div (by first | assumption | decide | omega) ?_
  | refine v_ix (by with_unfolding_all rfl) (by with_unfolding_all rfl) (by with_unfolding_all rfl) ?_
  | refine v_tupl (by with_unfolding_all rfl) ?_ | refine v_list (by with_unfolding_all rfl) ?_ | refine v_len (by with_unfolding_all rfl) (by with_unfolding_all rfl) ?_
  | refine v_mul (by first | assumption | exact okM_l (by decide) (by decide) | exact okM_r (by decide) (by decide) | exact okM_l (by omega) (by omega) | exact okM_r (by omega) (by omega)) ?_
  | refine v_eqI ?_ | refine v_neI ?_ | refine v_mk (by with_unfolding_all rfl) ?_
  | refine Exists.intro _ (And.intro (by with_unfolding_all rfl) ?_)
  | refine And.intro (by first | assumption | (with_unfolding_all exact Nat.le_of_ble_eq_true rfl) | (with_unfolding_all decide) | (with_unfolding_all rfl)) ?_
  | refine Exists.intro _ (Exists.intro _ (Exists.intro _ (And.intro (by with_unfolding_all rfl) (And.intro (by with_unfolding_all rfl) (And.intro (by with_unfolding_all rfl) ?_)))))
  | refine Exists.intro _ (Exists.intro _ (Exists.intro _ (Exists.intro _ (And.intro (by with_unfolding_all rfl) (And.intro (by with_unfolding_all rfl) (And.intro (by with_unfolding_all rfl) (And.intro (by with_unfolding_all rfl) ?_)))))))
  | refine b_eq (z := true) (by with_unfolding_all rfl) ?_ | refine b_eq (z := false) (by with_unfolding_all rfl) ?_)
/-! ### the cells, the box, the law -/
theorem seqOf_loc {S : Store} {n : Nat} {xs : List D} (h : S[n]? = some (.lst xs)) : seqOf S (.loc n) = some xs := by
  show (match S[n]? with | some (.lst xs) => some xs | some (.tup xs) => some xs | some (.scr xs) => some xs | _ => none) = some xs
  rw [h]
theorem cut_to {xs : List D} {m : Nat} : cutD xs none (some (m : Int)) = xs.take m := by
  unfold cutD
  rw [HT.sIx_nat, HT.sIx_none]
  simp [List.take_eq_take_iff]
theorem cut_from {xs : List D} {m k : Nat} : cutD xs (some (m : Int)) (some (k : Int)) = (xs.take k).drop m := by
  unfold cutD
  rw [HT.sIx_nat, HT.sIx_nat, List.drop_take]
  by_cases h : m ≤ xs.length
  · rw [Nat.min_eq_left h]
    by_cases h2 : k ≤ xs.length
    · rw [Nat.min_eq_left h2]
    · rw [Nat.min_eq_right (by omega), List.take_of_length_le (by simp), List.take_of_length_le (by simp; omega)]
  · rw [List.drop_eq_nil_of_le (as := xs) (i := m) (by omega), List.drop_eq_nil_of_le (by omega)]
    simp
theorem pairsI_eq : ∀ (l : List Int) (n : Nat), pairsI n (l.map .int) = (l.zipIdx n).map fun p => .tup [.int (p.2 : Int), .int p.1]
  | [], _ => rfl
  | x :: l, n => by rw [List.map_cons, pairsI, pairsI_eq l (n + 1), List.zipIdx_cons]; rfl
theorem ixN_nat {n k : Nat} (h : k < n) : ixN n (k : Int) = some k := by
  unfold ixN
  rw [if_pos (by omega), if_pos (by omega)]
  rfl
theorem atI_map {l : List Int} {k : Nat} (h : k < l.length) : atI (l.map D.int) (k : Int) = some (.int l[k]) := by
  rw [atI_nat, List.getElem?_map, List.getElem?_eq_getElem h]; rfl
theorem cells_ok {ns : List Int} {m : Nat} (hm : m = 2 ∨ m = 3) (hn : ns.length ≤ 63) : wF c_law_cells [.scr (ns.map .int), .int (m : Int)] [] fun d S => ∃ (k : Nat) (cs : List Int), d = .loc k ∧ S[k]? = some (.lst (cs.map .int)) ∧ 0 < cs.length ∧ cs.length ≤ 3 := by
  have hm0 : 0 < (m : Int) := by omega
  unfold c_law_cells
  repeat walk_at "w"
  rw [cut_to]
  have key : ∀ (pre : Store) (cs : List Int) (e3 e4 e5 : Option D), cs.length = max 1 (min m ns.length) → wS (sFor (iEnm (mSl fSl (mVar 0) (oSo (mVar 1)) (oSo (mC (.int 63))))) (pT 2 (pCons (pN 3) (pCons (pN 4) pNil))) (sSeq (sSet 5 (m2 fMod (m1 fInt (mVar 3)) (mVar 1)))
      (sSub (m2 fAdd (m2 fIx (mVar 2) (mVar 5)) (m2 fMul (mVar 4) (m2 fAdd (mVar 3) (mC (.int 2))))) (mVar 2) (mVar 5)))) [some (.scr (ns.map .int)), some (.int (m : Int)), some (.loc pre.length), e3, e4, e5] (pre ++ [.lst (cs.map .int)])
      (thenS (sRet (mVar 2)) (endF fun d S => ∃ (k : Nat) (cs : List Int), d = .loc k ∧ S[k]? = some (.lst (cs.map .int)) ∧ 0 < cs.length ∧ cs.length ≤ 3)) := by
    intro pre cs e3 e4 e5 hcs
    refine s_for ?_
    repeat walk_at "w"
    rw [show (63 : Int) = ((63 : Nat) : Int) from rfl, cut_from, ← List.map_take, ← List.map_drop]
    show wL ⟨pairsI 0 (((ns.take 63).drop m).map .int), []⟩ _ _ (pairsI 0 (((ns.take 63).drop m).map .int)) _ _ _
    rw [pairsI_eq]
    refine wL_inv (fun a b e S => (∃ e3 e4 e5, e = [some (.scr (ns.map .int)), some (.int (m : Int)), some (.loc pre.length), e3, e4, e5]) ∧ ∃ cs : List Int, cs.length = max 1 (min m ns.length) ∧ S = pre ++ [.lst (cs.map .int)] ∧ ∀ p ∈ b, p.2 < 63 ∧ m < ns.length)
      (fun _ _ _ _ _ => rfl) ?_ _ [] _ _ ⟨⟨_, _, _, rfl⟩, cs, hcs, rfl, fun p hp => ?_⟩ ?_
    · rintro a x b e S ⟨⟨e3, e4, e5, rfl⟩, cs, hc, rfl, hb⟩
      obtain ⟨hx, hml⟩ := hb x (by simp)
      refine ⟨_, rfl, ?_⟩
      have hmod : ∃ j : Nat, (x.2 : Int) % (m : Int) = (j : Int) ∧ j < cs.length := ⟨x.2 % m, by omega, by have := Nat.mod_lt x.2 (show 0 < m by omega); omega⟩
      obtain ⟨j, hj, hj2⟩ := hmod
      have hget : (pre ++ [D.lst (cs.map .int)])[pre.length]? = some (.lst (cs.map .int)) := by simp
      repeat walk_at "w"
      rw [hj]
      refine v_ix (x := .loc pre.length) (seqOf_loc hget) (atI_map hj2) rfl ?_
      repeat walk_at "w"
      refine ⟨_, _, _, j, rfl, rfl, hget, ixN_nat (by simpa using hj2), ⟨_, _, _, rfl⟩, cs.set j (cs[j] + x.1 * ((x.2 : Int) + 2)), by simpa using hc, ?_, fun p hp => hb p (by simp [hp])⟩
      simp [List.set_append]
    · rw [List.mem_iff_getElem] at hp
      obtain ⟨i, hi, rfl⟩ := hp
      simp at hi ⊢
      omega
    · rintro e S ⟨⟨e3, e4, e5, rfl⟩, cs, hc, rfl, _⟩
      repeat walk_at "w"
      exact ⟨pre.length, cs, rfl, by simp, by omega, by omega⟩
  cases ns with
  | nil =>
    refine b_eq (z := false) (by simp) ?_
    repeat walk_at "w"
    rcases hm with h | h <;> subst h <;> exact key [.lst []] [0] none none none (by simp)
  | cons n0 ns =>
    refine b_eq (z := true) (by rcases hm with h | h <;> subst h <;> rfl) ?_
    repeat walk_at "w"
    rw [← List.map_take]
    exact key [] ((n0 :: ns).take m) none none none (by simp; omega)
/-- a box of a cell -/
theorem box_ok {S : Store} {d : D} {cs : List Int} {k : Nat} (hd : seqOf S d = some (cs.map .int)) (hs : isStrD d = false) (hk : k < cs.length) (hc : cs.length ≤ 3) : wF c_law_box [d, .int (k : Int)] S fun d S' => ∃ b, d = .loc S.length ∧ S' = S ++ [bxd b] ∧ b.2.2 = 0 := by
  unfold c_law_box
  repeat walk_at "w"
  refine v_len hd hs ?_
  simp only [List.length_map]
  repeat walk_at "w"
  refine b_d (fun _ => ?_) (fun h => absurd (show (k : Int) < (cs.length : Int) by omega) h)
  repeat walk_at "w"
  refine v_ix hd (atI_map hk) hs ?_
  repeat walk_at "w"
  have fin : ∀ x y : Int, ∃ b : Int × Int × Int, D.loc S.length = .loc S.length ∧ S ++ [D.lst [.int x, .int y, .int 0]] = S ++ [bxd b] ∧ b.2.2 = 0 := fun x y => ⟨(x, y, 0), rfl, rfl, rfl⟩
  exact fin _ _
/-- the law's two forms -/
def c_lawA (R : Fn) (m : Int) : Fn := fnM 3 (sSeq (sSet 1 (mCall c_law_cells 2 (aCons (mVar 0) (aCons (mC (.int m)) aNil))))
  (sRet (m1 fAll (mComp (iRg1 (m1 fLen (mVar 1))) [2] (pN 2) tTrue (mCallR true R 1 (aCons (mCall c_law_box 2 (aCons (mVar 1) (aCons (mVar 2) aNil))) aNil))))))
def c_lawB (R : Fn) (m : Int) : Fn := fnM 5 (sSeq (sSet 1 (mCall c_law_cells 2 (aCons (mVar 0) (aCons (mC (.int m)) aNil))))
  (sSeq (sFor (iRg1 (m1 fLen (mVar 1))) (pN 2) (sSeq (sSet 3 (mCall c_law_box 2 (aCons (mVar 1) (aCons (mVar 2) aNil))))
  (sIf (tNo (tTr (m1 fAll (mComp (iRg1 (mC (.int 1))) [4] (pN 4) tTrue (mCallR true R 1 (aCons (mVar 3) aNil)))))) (sRet (mC (.bl false))) sNil)))
  (sRet (mC (.bl true)))))
theorem rngD_map {n : Nat} : rngD 0 n = (List.range n).map fun i => .int (i : Int) := by
  unfold rngD
  simp
theorem lawA_ok {R : Fn} {T : Nat} {m : Int} (hm : m = 2 ∨ m = 3) (hT : T ≤ 2 ^ 60) (h : Dr T R [] fun d => d = .bl true) : LawOk (c_lawA R m) := by
  intro ns hn
  obtain ⟨mn, rfl⟩ : ∃ mn : Nat, m = (mn : Int) := ⟨m.toNat, by omega⟩
  have key : wF (c_lawA R (mn : Int)) [.scr (ns.map .int)] [] fun d _ => d = .bl true := by
    unfold c_lawA
    repeat walk_at "w"
    refine (cells_ok (by omega) hn).mono ?_
    rintro _ S ⟨k, cs, rfl, hk, h0, h3⟩
    repeat walk_at "w"
    refine v_len (seqOf_loc hk) rfl ?_
    repeat walk_at "w"
    refine ⟨⟨by omega, by rw [List.length_map]; omega⟩, ?_⟩
    simp only [List.length_map, Int.toNat_natCast, rngD_map]
    refine ⟨by simp; omega, ?_⟩
    refine wK_inv (fun a b S acc => S[k]? = some (.lst (cs.map .int)) ∧ (∀ x ∈ b, x < cs.length) ∧ acc = a.map fun _ => .bl true) (fun _ _ _ _ _ => rfl) ?_ _ [] _ _ ⟨hk, fun x hx => by simpa using hx, rfl⟩ ?_
    · rintro a x b S acc ⟨hk, hx, rfl⟩
      refine ⟨_, rfl, ?_⟩
      repeat walk_at "w"
      refine (box_ok (seqOf_loc hk) rfl (hx x (by simp)) h3).mono ?_
      rintro _ _ ⟨b0, rfl, rfl, hb⟩
      repeat walk_at "w"
      refine wC_draw h (b := b0) (n := 0) (by simp) ⟨by omega, by rw [hb]; omega⟩ rfl ?_
      rintro _ b' rfl _
      have hlt := (List.getElem?_eq_some_iff.mp hk).1
      refine ⟨?_, fun y hy => hx y (by simp [hy]), by simp⟩
      rw [List.getElem?_set_ne (by omega), List.getElem?_append_left hlt]
      exact hk
    · rintro S acc ⟨_, _, rfl⟩
      refine v_all ?_
      repeat walk_at "w"
      simp
  obtain ⟨d, S, h1, rfl⟩ := key
  exact ⟨S, h1⟩
theorem lawB_ok {R : Fn} {T : Nat} {m : Int} (hm : m = 2 ∨ m = 3) (hT : T ≤ 2 ^ 60) (h : Dr T R [] fun d => d = .bl true) : LawOk (c_lawB R m) := by
  intro ns hn
  obtain ⟨mn, rfl⟩ : ∃ mn : Nat, m = (mn : Int) := ⟨m.toNat, by omega⟩
  have key : wF (c_lawB R (mn : Int)) [.scr (ns.map .int)] [] fun d _ => d = .bl true := by
    unfold c_lawB
    repeat walk_at "w"
    refine (cells_ok (by omega) hn).mono ?_
    rintro _ S ⟨k, cs, rfl, hk, h0, h3⟩
    repeat walk_at "w"
    refine s_for ?_
    repeat walk_at "w"
    refine v_len (seqOf_loc hk) rfl ?_
    repeat walk_at "w"
    refine ⟨⟨by omega, by rw [List.length_map]; omega⟩, ?_⟩
    simp only [List.length_map, Int.toNat_natCast, rngD_map]
    refine wL_inv (fun a b e S => (∃ e2 e3 e4, e = [some (.scr (ns.map .int)), some (.loc k), e2, e3, e4]) ∧ S[k]? = some (.lst (cs.map .int)) ∧ (∀ x ∈ b, x < cs.length)) (fun _ _ _ _ _ => rfl) ?_ _ [] _ _ ⟨⟨_, _, _, rfl⟩, hk, fun x hx => by simpa using hx⟩ ?_
    · rintro a x b e S ⟨⟨e2, e3, e4, rfl⟩, hk, hx⟩
      refine ⟨_, rfl, ?_⟩
      repeat walk_at "w"
      refine (box_ok (seqOf_loc hk) rfl (hx x (by simp)) h3).mono ?_
      rintro _ _ ⟨b0, rfl, rfl, hb⟩
      repeat walk_at "w"
      refine wK_cons.mpr ⟨rfl, _, rfl, ?_⟩
      repeat walk_at "w"
      refine wC_draw h (b := b0) (n := 0) (by simp) ⟨by omega, by rw [hb]; omega⟩ rfl ?_
      rintro _ b' rfl _
      refine wK_nil.mpr ⟨rfl, ?_⟩
      repeat walk_at "w"
      have hlt := (List.getElem?_eq_some_iff.mp hk).1
      refine ⟨⟨_, _, _, rfl⟩, ?_, fun y hy => hx y (by simp [hy])⟩
      rw [List.getElem?_set_ne (by omega), List.getElem?_append_left hlt]
      exact hk
    · rintro e S ⟨⟨e2, e3, e4, rfl⟩, _⟩
      repeat walk_at "w"
      rfl
  obtain ⟨d, S, h1, rfl⟩ := key
  exact ⟨S, h1⟩
end MM
set_option maxRecDepth 100000
set_option maxHeartbeats 1000000
namespace MM
open PySem PySem.Spec PyProof.Rows L2
local instance tab_Mm24 : Tabl := tab0
local macro_rules | `(tactic| walk_at "w") => `(tactic| with_reducible first
  | refine e_var (by with_unfolding_all rfl) ?_ | refine e_c ?_ | refine e_m2 ?_ | refine e_m1 ?_ | refine e_new ?_ | refine e_ch ?_ | refine e_and ?_ | refine e_or ?_ | refine e_not ?_ | refine e_if ?_ | refine e_tup ?_ | refine e_lst ?_ | refine e_sl ?_ | refine e_app ?_
  | refine e_callR ?_ | refine e_call ?_ | refine e_comp ?_ | refine t_b1 ?_ | refine t_tr ?_ | refine t_an ?_ | refine t_or ?_ | refine t_no ?_ | refine t_true ?_ | refine a_nil ?_ | refine a_cons ?_ | refine a_pick ?_ | refine o_no ?_ | refine o_so ?_
  | refine s_nil ?_ | refine s_retn ?_ | refine s_brk ?_ | refine s_cnt ?_ | refine s_seq ?_ | refine s_set ?_ | refine s_expr ?_ | refine s_ret ?_ | refine s_if ?_ | refine s_asg ?_ | refine s_par ?_ | refine s_sub ?_ | refine f_fn ?_
  | refine n_then ?_ | refine n_thenr ?_ | refine n_thenb ?_ | refine n_thenc ?_ | refine n_endr ?_ | refine n_endn ?_ | refine n_turn ?_ | refine n_turnc ?_ | refine n_turnb ?_ | refine n_turnr ?_ | refine i_seq ?_ | refine i_zip ?_ | refine i_enm ?_ | refine i_rg1 ?_ | refine i_rg2 ?_
  | refine b_t ?_ | refine b_f ?_ | refine v_addI ?_ | refine v_sub ?_ | refine v_some ?_
  | refine v_mod (by first | assumption | decide | omega) ?_
  | refine v_div (by first | assumption | decide | omega) ?_
  | refine v_ix (by with_unfolding_all rfl) (by with_unfolding_all rfl) (by with_unfolding_all rfl) ?_
  | refine v_tupl (by with_unfolding_all rfl) ?_ | refine v_list (by with_unfolding_all rfl) ?_ | refine v_len (by with_unfolding_all rfl) (by with_unfolding_all rfl) ?_
  | refine v_mul (by first | assumption | exact okM_l (by decide) (by decide) | exact okM_r (by decide) (by decide) | exact okM_l (by omega) (by omega) | exact okM_r (by omega) (by omega)) ?_
  | refine v_eqI ?_ | refine v_neI ?_ | refine v_mk (by with_unfolding_all rfl) ?_
  | refine Exists.intro _ (And.intro (by with_unfolding_all rfl) ?_)
  | refine And.intro (by first | assumption | (with_unfolding_all exact Nat.le_of_ble_eq_true rfl) | (with_unfolding_all decide) | (with_unfolding_all rfl)) ?_
  | refine Exists.intro _ (Exists.intro _ (Exists.intro _ (And.intro (by with_unfolding_all rfl) (And.intro (by with_unfolding_all rfl) (And.intro (by with_unfolding_all rfl) ?_)))))
  | refine Exists.intro _ (Exists.intro _ (Exists.intro _ (Exists.intro _ (And.intro (by with_unfolding_all rfl) (And.intro (by with_unfolding_all rfl) (And.intro (by with_unfolding_all rfl) (And.intro (by with_unfolding_all rfl) ?_)))))))
  | refine b_eq (z := true) (by with_unfolding_all rfl) ?_ | refine b_eq (z := false) (by with_unfolding_all rfl) ?_)
/-! ### sessions -/
abbrev Row := Int × Int × List Str
def encN (ns : List Str) : D := .tup (ns.map .str)
def encR (r : Row) : D := .tup [.int r.1, .int r.2.1, encN r.2.2]
structure NamesOk (ps ns : List Str) : Prop where
  ne : ns ≠ []
  sz : ns.length ≤ 64
  nd : ns.Nodup
  st : ns.Pairwise fun a b => strLe a b = true
  sub : ∀ x ∈ ns, x ∈ ps
structure RowsOk (n : Nat) (ps : List Str) (rows : List Row) : Prop where
  len : rows.length = n
  lo : ∀ r ∈ rows, 0 ≤ r.1 ∧ r.1 < r.2.1 ∧ r.2.1 ≤ 3 * n + 2
  nm : ∀ r ∈ rows, NamesOk ps r.2.2
  inc : rows.Pairwise fun a b => a.2.1 < b.2.1
theorem mem_uniqS {x : Str} : ∀ {l : List Str}, x ∈ uniqS l ↔ x ∈ l
  | [] => Iff.rfl
  | y :: l => by
    unfold uniqS
    split
    · rename_i h
      rw [mem_uniqS, List.mem_cons]
      exact ⟨.inr, fun z => z.elim (fun e => e ▸ List.contains_iff_mem.mp h) id⟩
    · rw [List.mem_cons, List.mem_cons, mem_uniqS]
theorem nodup_uniqS : ∀ l : List Str, (uniqS l).Nodup
  | [] => .nil
  | y :: l => by
    unfold uniqS
    split
    · exact nodup_uniqS l
    · rename_i h
      exact List.nodup_cons.mpr ⟨fun z => h (List.contains_iff_mem.mpr (mem_uniqS.mp z)), nodup_uniqS l⟩
theorem len_uniqS : ∀ l : List Str, (uniqS l).length ≤ l.length
  | [] => Nat.le_refl _
  | y :: l => by
    have := len_uniqS l
    unfold uniqS
    split <;> simp only [List.length_cons] <;> omega
theorem mapM_str : ∀ l : List Str, (l.map D.str).mapM strD = some l
  | [] => rfl
  | x :: l => by rw [List.map_cons, List.mapM_cons, mapM_str l]; rfl
theorem v_sortset {ns : List Str} {S : Store} {R : D → Prop} (h : ns.length < 64) (q : R (.lst ((sortS (uniqS ns)).map .str))) : wV (fSortSet S (.lst (ns.map .str))) R := by
  refine ⟨_, ?_, q⟩
  show (if (ns.map D.str).length < 64 then ((ns.map D.str).mapM strD).map fun ss => D.lst ((sortS (uniqS ss)).map .str) else none) = _
  rw [if_pos (by simpa using h), mapM_str]
  rfl
theorem names_ok {ps ns : List Str} (h0 : ns ≠ []) (h1 : ns.length < 64) (hs : ∀ x ∈ ns, x ∈ ps) : NamesOk ps (sortS (uniqS ns)) where
  ne := fun e => by
    obtain ⟨x, l, rfl⟩ := List.exists_cons_of_ne_nil h0
    have : x ∈ sortS (uniqS (x :: l)) := (sortS_perm _).mem_iff.mpr (mem_uniqS.mpr (by simp))
    rw [e] at this
    cases this
  sz := by rw [(sortS_perm _).length_eq]; have := len_uniqS ns; omega
  nd := (sortS_perm _).nodup_iff.mpr (nodup_uniqS ns)
  st := sortS_sorted _
  sub := fun x hx => hs x (mem_uniqS.mp ((sortS_perm _).mem_iff.mp hx))
theorem pure_strs (ns : List Str) : D.pures (ns.map .str) = true := pures_of fun x hx => by
  obtain ⟨s, _, rfl⟩ := List.mem_map.mp hx; rfl
theorem pure_encR (r : Row) : D.pure (encR r) = true := by
  simp [encR, encN, D.pure, D.pures, pure_strs]
theorem pure_rows (rows : List Row) : D.pures (rows.map encR) = true := pures_of fun x hx => by
  obtain ⟨s, _, rfl⟩ := List.mem_map.mp hx; exact pure_encR s
theorem mem_strs {d : D} {ps : List Str} (h : d ∈ ps.map D.str) : ∃ s ∈ ps, d = .str s := by
  obtain ⟨s, h1, rfl⟩ := List.mem_map.mp h; exact ⟨s, h1, rfl⟩
theorem sessions_ok {n : Nat} {ps : List Str} {pool : D} (hp : pool = .tup (ps.map .str) ∨ pool = .lst (ps.map .str)) (h0 : ps ≠ []) (h1 : ps.length < 63) (hn : n ≤ 1000) :
    Dr (2 + n * (3 + ps.length)) c_law_sessions [.int (n : Int), pool] fun d => ∃ rows, RowsOk n ps rows ∧ d = .tup (rows.map encR) := by
  intro N b hb
  have hpl : 0 < ps.length := List.length_pos_iff.mpr h0
  have hpool : D.pure pool = true := by rcases hp with h | h <;> subst h <;> simp [D.pure, pure_strs]
  have hseq : ∀ S, itsOf S pool = some ⟨ps.map .str, []⟩ := fun S => by rcases hp with h | h <;> subst h <;> rfl
  have hp3 : pool = .tup (ps.map .str) ∨ pool = .lst (ps.map .str) ∨ pool = .scr (ps.map .str) := hp.imp id .inl
  unfold c_law_sessions
  repeat walk_at "w"
  refine wC_draw (of_ok (.inr (.inl rfl)) (by decide) (by decide) rfl) (k := 0) (n := N + n * (3 + ps.length) + 1) rfl (hb.le (by omega)) rfl ?_
  intro w b1 hw hb1
  obtain ⟨wi, rfl, hw0, hw1⟩ : ∃ wi : Int, w = .int wi ∧ 0 < wi ∧ wi < 1000 := by
    simp at hw
    rcases hw with h | h | h | h <;> subst h <;> exact ⟨_, rfl, by decide, by decide⟩
  repeat walk_at "w"
  refine wC_draw (take_ok (m := 3) (by decide) (by decide)) (k := 0) (n := N + n * (3 + ps.length)) rfl hb1 rfl ?_
  rintro _ b2 ⟨v0, rfl, v1, v2⟩ hb2
  repeat walk_at "w"
  refine s_for ?_
  repeat walk_at "w"
  refine ⟨⟨by omega, by omega⟩, ?_⟩
  simp only [Int.toNat_natCast, rngD_map]
  refine wL_inv (fun a l e S => a.length + l.length = n ∧ ∃ (bt : Int) (rows : List Row) (b : Int × Int × Int) (e6 e7 e8 e9 : Option D), e = [some (.loc 0), some (.int (n : Int)), some pool, some (.int wi), some (.int bt), some (.loc 1), e6, e7, e8, e9] ∧ S = [bxd b, .lst (rows.map encR)] ∧
    Okb (N + l.length * (3 + ps.length)) b ∧ rows.length = a.length ∧ 0 ≤ bt ∧ bt ≤ 2 + 3 * a.length ∧ (∀ r ∈ rows, 0 ≤ r.1 ∧ r.1 < r.2.1 ∧ r.2.1 ≤ bt) ∧ (∀ r ∈ rows, NamesOk ps r.2.2) ∧ rows.Pairwise fun a b => a.2.1 < b.2.1) (fun _ _ _ _ _ => rfl) ?_ _ [] _ _
    ⟨by simp, v0, [], b2, none, none, none, none, rfl, rfl, by simpa using hb2, rfl, v1, by simp; omega, by simp, by simp, .nil⟩ ?_
  · rintro a x l e S ⟨hl, bt, rows, b, e6, e7, e8, e9, rfl, rfl, hb, hlen, hbt0, hbt1, hr, hnm, hinc⟩
    have hl : a.length + l.length + 1 = n := by simpa [Nat.add_assoc] using hl
    have hb : Okb (N + l.length * (3 + ps.length) + ps.length + 3) b := hb.le (by rw [List.length_cons, Nat.succ_mul]; omega)
    refine ⟨_, rfl, ?_⟩
    repeat walk_at "w"
    refine wC_draw (of_ok (.inr (.inl rfl)) (by decide) (by decide) rfl) (k := 0) (n := N + l.length * (3 + ps.length) + ps.length + 2) rfl (hb.le (by omega)) rfl ?_
    intro g b1 hg hb1
    obtain ⟨gi, rfl, hg0, hg1⟩ : ∃ gi : Int, g = .int gi ∧ 0 ≤ gi ∧ gi ≤ 2 := by
      simp at hg
      rcases hg with h | h | h <;> subst h <;> exact ⟨_, rfl, by decide, by decide⟩
    repeat walk_at "w"
    refine wC_draw (take_ok (m := wi) hw0 (by omega)) (k := 0) (n := N + l.length * (3 + ps.length) + ps.length + 1) rfl hb1 rfl ?_
    rintro _ b2 ⟨t0, rfl, t1, t2⟩ hb2
    repeat walk_at "w"
    refine wC_draw (of_ok hp3 (by simpa using hpl) (by simp; omega) (pure_strs ps)) (k := 0) (n := N + l.length * (3 + ps.length) + ps.length) rfl hb2 (by simp [D.pures, hpool]) ?_
    intro p0 b3 hp0 hb3
    obtain ⟨s0, hs0, rfl⟩ := mem_strs hp0
    repeat walk_at "w"
    refine v_mk (hseq _) ⟨by simp; omega, ?_⟩
    refine wK_inv (fun a' l' S acc => ∃ (b : Int × Int × Int) (ch : List Str), S = [bxd b, .lst (rows.map encR)] ∧ Okb (N + l.length * (3 + ps.length) + l'.length) b ∧ acc = ch.map .str ∧ ch.length ≤ a'.length ∧ (∀ x ∈ ch, x ∈ ps) ∧ a' ++ l' = ps) (fun _ _ _ _ _ => rfl) ?_ _ [] _ _ ⟨b3, [], rfl, hb3, rfl, by simp, by simp, by simp⟩ ?_
    · rintro a' x' l' S acc ⟨b, ch, rfl, hb, rfl, hc, hcs, heq⟩
      refine ⟨_, rfl, ?_⟩
      repeat walk_at "w"
      refine wC_draw (take_ok (m := 3) (by decide) (by decide)) (k := 0) (n := N + l.length * (3 + ps.length) + l'.length) rfl hb rfl ?_
      rintro _ b4 ⟨t3, rfl, t4, t5⟩ hb4
      repeat walk_at "w"
      refine b_d (fun _ => ?_) (fun _ => ?_)
      · repeat walk_at "w"
        exact ⟨b4, ch ++ [x'], rfl, hb4, by simp, by simp; omega, fun y hy => by
          rcases List.mem_append.mp hy with h | h
          · exact hcs y h
          · rw [List.mem_singleton.mp h, ← heq]; simp, by simpa using heq⟩
      · exact ⟨b4, ch, rfl, hb4, rfl, by simp; omega, hcs, by simpa using heq⟩
    · rintro S acc ⟨b, ch, rfl, hb, rfl, hc, hcs, _⟩
      refine v_addL rfl rfl (by simp at hc ⊢; omega) ?_
      repeat walk_at "w"
      rw [show [D.str s0] ++ ch.map D.str = (s0 :: ch).map .str from rfl]
      refine v_sortset (by simp at hc ⊢; omega) ?_
      repeat walk_at "w"
      have hn2 := names_ok (ps := ps) (ns := s0 :: ch) (by simp) (by simp at hc ⊢; omega) (fun x hx => (List.mem_cons.mp hx).elim (fun e => e ▸ hs0) (hcs x))
      refine ⟨by simp; omega, ?_⟩
      generalize sortS (uniqS (s0 :: ch)) = nm at hn2 ⊢
      refine ⟨by simp; omega, bt + 1 + gi, rows ++ [(if bt + 1 + gi - 1 - t0 > 0 then bt + 1 + gi - 1 - t0 else 0, bt + 1 + gi, nm)], b, _, _, _, _, rfl, by simp [encR, encN], by simpa using hb, by simp [hlen], by omega, by simp; omega, ?_, ?_, ?_⟩
      · intro r hr'
        rcases List.mem_append.mp hr' with h | h
        · have := hr r h; omega
        · rw [List.mem_singleton.mp h]
          dsimp only
          split <;> omega
      · intro r hr'
        rcases List.mem_append.mp hr' with h | h
        · exact hnm r h
        · rw [List.mem_singleton.mp h]; exact hn2
      · rw [List.pairwise_append]
        refine ⟨hinc, by simp, fun r hr' q hq => ?_⟩
        rw [List.mem_singleton.mp hq]
        have := hr r hr'
        dsimp only
        omega
  · rintro e S ⟨hl, bt, rows, b, e6, e7, e8, e9, rfl, rfl, hb, hlen, hbt0, hbt1, hr, hnm, hinc⟩
    repeat walk_at "w"
    simp at hl hb
    refine ends_pure hb (by simp [D.pure, pure_rows]) ⟨rows, ⟨by simp at hlen; omega, fun r h => ?_, hnm, hinc⟩, rfl⟩
    have := hr r h
    simp at hbt1
    omega
end MM
set_option maxRecDepth 100000
set_option maxHeartbeats 1000000
namespace MM
open PySem PySem.Spec PyProof.Rows L2
local instance tab_Mm25 : Tabl := tab0
local macro_rules | `(tactic| walk_at "w") => `(tactic| with_reducible first
  | refine e_var (by with_unfolding_all rfl) ?_ | refine e_c ?_ | refine e_m2 ?_ | refine e_m1 ?_ | refine e_new ?_ | refine e_ch ?_ | refine e_and ?_ | refine e_or ?_ | refine e_not ?_ | refine e_if ?_ | refine e_tup ?_ | refine e_lst ?_ | refine e_sl ?_ | refine e_app ?_
  | refine e_callR ?_ | refine e_call ?_ | refine e_comp ?_ | refine t_b1 ?_ | refine t_tr ?_ | refine t_an ?_ | refine t_or ?_ | refine t_no ?_ | refine t_true ?_ | refine a_nil ?_ | refine a_cons ?_ | refine a_pick ?_ | refine o_no ?_ | refine o_so ?_
  | refine s_nil ?_ | refine s_retn ?_ | refine s_brk ?_ | refine s_cnt ?_ | refine s_seq ?_ | refine s_set ?_ | refine s_expr ?_ | refine s_ret ?_ | refine s_if ?_ | refine s_asg ?_ | refine s_par ?_ | refine s_sub ?_ | refine f_fn ?_
  | refine n_then ?_ | refine n_thenr ?_ | refine n_thenb ?_ | refine n_thenc ?_ | refine n_endr ?_ | refine n_endn ?_ | refine n_turn ?_ | refine n_turnc ?_ | refine n_turnb ?_ | refine n_turnr ?_ | refine i_seq ?_ | refine i_zip ?_ | refine i_enm ?_ | refine i_rg1 ?_ | refine i_rg2 ?_
  | refine b_t ?_ | refine b_f ?_ | refine v_addI ?_ | refine v_sub ?_ | refine v_some ?_
  | refine v_mod (by first | assumption | decide | omega) ?_
  | refine v_div (by first | assumption | decide | omega) ?_
  | refine v_ix (by with_unfolding_all rfl) (by with_unfolding_all rfl) (by with_unfolding_all rfl) ?_
  | refine v_tupl (by with_unfolding_all rfl) ?_ | refine v_list (by with_unfolding_all rfl) ?_ | refine v_len (by with_unfolding_all rfl) (by with_unfolding_all rfl) ?_
  | refine v_mul (by first | assumption | exact okM_l (by decide) (by decide) | exact okM_r (by decide) (by decide) | exact okM_l (by omega) (by omega) | exact okM_r (by omega) (by omega)) ?_
  | refine v_eqI ?_ | refine v_neI ?_ | refine v_mk (by with_unfolding_all rfl) ?_
  | refine Exists.intro _ (And.intro (by with_unfolding_all rfl) ?_)
  | refine And.intro (by first | assumption | (with_unfolding_all exact Nat.le_of_ble_eq_true rfl) | (with_unfolding_all decide) | (with_unfolding_all rfl)) ?_
  | refine Exists.intro _ (Exists.intro _ (Exists.intro _ (And.intro (by with_unfolding_all rfl) (And.intro (by with_unfolding_all rfl) (And.intro (by with_unfolding_all rfl) ?_)))))
  | refine Exists.intro _ (Exists.intro _ (Exists.intro _ (Exists.intro _ (And.intro (by with_unfolding_all rfl) (And.intro (by with_unfolding_all rfl) (And.intro (by with_unfolding_all rfl) (And.intro (by with_unfolding_all rfl) ?_)))))))
  | refine b_eq (z := true) (by with_unfolding_all rfl) ?_ | refine b_eq (z := false) (by with_unfolding_all rfl) ?_)
/-! ### tools -/
theorem zipD_maps {α β : Type} (f : α → D) (g : β → D) : ∀ (l : List α) (m : List β), zipD (l.map f) (m.map g) = (l.zip m).map fun p => .tup [f p.1, g p.2]
  | [], _ => by cases ‹List β› <;> rfl
  | _ :: _, [] => rfl
  | x :: l, y :: m => by
    rw [List.map_cons, List.map_cons, zipD, zipD_maps f g l m]; rfl
theorem range_zip {α : Type} (l : List α) : ((List.range l.length).map fun i : Nat => D.int (i : Int)) = l.zipIdx.map fun p => .int (p.2 : Int) := by
  rw [List.zipIdx_eq_zip_range', List.range_eq_range']
  apply List.ext_getElem
  · simp
  · intro i h1 h2
    simp
theorem zipIdx_get {α : Type} {l : List α} {p : α × Nat} (h : p ∈ l.zipIdx) : l[p.2]? = some p.1 := by
  obtain ⟨x, i⟩ := p
  exact List.mem_zipIdx_iff_getElem?.mp h
theorem atI_mapf {α : Type} {l : List α} {f : α → D} {k : Nat} {x : α} (h : l[k]? = some x) : atI (l.map f) (k : Int) = some (f x) := by
  rw [atI_nat, List.getElem?_map, h]; rfl
theorem okn_tupm {α : Type} {n : Nat} {l : List α} {f : α → D} (hl : l.length ≤ 4000) (h : ∀ x ∈ l, D.okn n (f x) = true) : D.okn (n + 1) (.tup (l.map f)) = true :=
  okn_tup.mpr ⟨n, rfl, by simpa using hl, by simpa using h⟩
theorem okn_lstm {α : Type} {n : Nat} {l : List α} {f : α → D} (hl : l.length ≤ 4000) (h : ∀ x ∈ l, D.okn n (f x) = true) : D.okn (n + 1) (.lst (l.map f)) = true :=
  okn_lst.mpr ⟨n, rfl, by simpa using hl, by simpa using h⟩
theorem ok_tupm {α : Type} {n : Nat} {l : List α} {f : α → D} : D.ok (n + 1) (.tup (l.map f)) = true ↔ l.length ≤ 4000 ∧ ∀ x ∈ l, D.ok n (f x) = true := by
  rw [ok_tup]
  constructor
  · rintro ⟨m, e, h1, h2⟩; cases e; exact ⟨by simpa using h1, by simpa using h2⟩
  · rintro ⟨h1, h2⟩; exact ⟨n, rfl, by simpa using h1, by simpa using h2⟩
theorem ok_lstm {α : Type} {n : Nat} {l : List α} {f : α → D} : D.ok (n + 1) (.lst (l.map f)) = true ↔ l.length ≤ 4000 ∧ ∀ x ∈ l, D.ok n (f x) = true := by
  rw [ok_lst]
  constructor
  · rintro ⟨m, e, h1, h2⟩; cases e; exact ⟨by simpa using h1, by simpa using h2⟩
  · rintro ⟨h1, h2⟩; exact ⟨n, rfl, by simpa using h1, by simpa using h2⟩
theorem map_inj {α : Type} {f : α → D} (hf : ∀ x y, f x = f y → x = y) : ∀ {l m : List α}, l.map f = m.map f → l = m
  | [], [], _ => rfl
  | [], _ :: _, h => by simp at h
  | _ :: _, [], h => by simp at h
  | x :: l, y :: m, h => by
    simp only [List.map_cons, List.cons.injEq] at h
    rw [hf x y h.1, map_inj hf h.2]
theorem encN_inj {a b : List Str} (h : encN a = encN b) : a = b := by
  unfold encN at h
  injection h with h
  exact map_inj (f := D.str) (fun x y h => by injection h) h
theorem encR_inj {a b : Row} (h : encR a = encR b) : a = b := by
  obtain ⟨a1, a2, a3⟩ := a
  obtain ⟨b1, b2, b3⟩ := b
  unfold encR at h
  simp only [D.tup.injEq, List.cons.injEq, D.int.injEq, and_true] at h
  rw [h.1, h.2.1, encN_inj h.2.2]
theorem beq_rows {a b : List Row} : D.beq (.tup (a.map encR)) (.tup (b.map encR)) = decide (a = b) := by
  rw [beq_dec]
  by_cases h : a = b
  · subst h; rw [decide_eq_true rfl, decide_eq_true rfl]
  · rw [decide_eq_false h, decide_eq_false fun z => h (map_inj (fun _ _ => encR_inj) (by injection z))]
/-- names that the model can compare -/
def nmOk (ns : List Str) : Bool := decide (ns.length ≤ 4000) && ns.all strOkD
theorem okn_names {ns : List Str} (h : nmOk ns = true) : D.okn 1 (encN ns) = true := by
  unfold nmOk at h
  simp only [Bool.and_eq_true, decide_eq_true_eq, List.all_eq_true] at h
  exact okn_tupm h.1 fun x hx => h.2 x hx
theorem names_of {n : Nat} {ns : List Str} (h : D.ok n (encN ns) = true) : nmOk ns = true := by
  cases n with
  | zero => cases h
  | succ n =>
    obtain ⟨h1, h2⟩ := ok_tupm.mp h
    unfold nmOk
    simp only [Bool.and_eq_true, decide_eq_true_eq, List.all_eq_true]
    exact ⟨h1, fun x hx => by have := h2 x hx; cases n <;> exact this⟩
theorem okn_row {r : Row} (h : nmOk r.2.2 = true) : D.okn 2 (encR r) = true := by
  refine okn_tup.mpr ⟨1, rfl, by simp, fun x hx => ?_⟩
  simp at hx
  rcases hx with e | e | e <;> subst e <;> first | rfl | exact okn_names h
theorem row_of {n : Nat} {r : Row} (h : D.ok n (encR r) = true) : nmOk r.2.2 = true := by
  obtain ⟨m, _, _, h⟩ := ok_tup.mp h
  exact names_of (h (encN r.2.2) (by simp))
theorem okn_rows {rows : List Row} (hl : rows.length ≤ 4000) (h : ∀ r ∈ rows, nmOk r.2.2 = true) : D.okn 3 (.tup (rows.map encR)) = true := okn_tupm hl fun r hr => okn_row (h r hr)
theorem rows_of {n : Nat} {rows : List Row} (h : D.ok n (.tup (rows.map encR)) = true) : rows.length ≤ 4000 ∧ ∀ r ∈ rows, nmOk r.2.2 = true := by
  cases n with
  | zero => cases h
  | succ n => obtain ⟨h1, h2⟩ := ok_tupm.mp h; exact ⟨h1, fun r hr => row_of (h2 r hr)⟩
theorem ints_of {n : Nat} {l : List Int} (h : D.ok n (.tup (l.map .int)) = true) : l.length ≤ 4000 := by
  cases n with
  | zero => cases h
  | succ n => exact (ok_tupm.mp h).1
theorem lists_loc {n k : Nat} {S : Store} {xs : List D} {Q : D → Store → Prop} (hk : S[k]? = some (.lst xs)) (hl : xs.length ≤ 4000) (hx : ∀ x ∈ xs, D.ok n x = true) (q : Q (.lst (xs.map lisD)) S) : wF (c_law_lists (n + 2)) [.loc k] S Q := by
  unfold c_law_lists
  repeat walk_at "w"
  refine v_mk (show fIsi2 [.lst, .tup] S (.loc k) = some (.bl true) by
    show ((match S[k]? with | some .non => some Ty.non | some (.bl _) => some .bl | some (.int _) => some .int | some (.str _) => some .str | some (.tup _) => some .tup | some (.lst _) => some .lst | some (.scr _) => some .lst | some (.dic _ _) => some .dic | _ => none).map _) = _
    rw [hk]; rfl) ?_
  repeat walk_at "w"
  refine v_mk (show itsOf S (.loc k) = some ⟨xs, [(k, .lst xs)]⟩ by
    show (match S[k]? with | some (.lst xs) => some (⟨xs, [(k, .lst xs)]⟩ : Its) | _ => none) = _
    rw [hk]) ?_
  refine ⟨hl, ?_⟩
  show wK _ _ _ _ _ xs _ _ _
  rw [map_id_eq (xs := xs)]
  refine wK_map0 (g := lisD) (by unfold still; simp [hk, D.beq_refl]) xs [] (fun x hm => ⟨_, rfl, ?_⟩) ?_
  · repeat walk_at "w"
    exact wC_pure (lists_ok (hx x hm)) (pures1 (ok_pure (hx x hm))) ⟨rfl, rfl⟩
  · repeat walk_at "w"
    simpa using q
/-! ### drafts, filled -/
abbrev Dra := Int × Int × Int × List Str
def encD (d : Dra) : D := .tup [.int d.1, .int d.2.1, .int d.2.2.1, encN d.2.2.2]
theorem dra_of {n : Nat} {d : Dra} (h : D.ok n (encD d) = true) : nmOk d.2.2.2 = true := by
  obtain ⟨m, _, _, h⟩ := ok_tup.mp h
  exact names_of (h (encN d.2.2.2) (by simp))
theorem dras_of {n : Nat} {ds : List Dra} (h : D.ok n (.tup (ds.map encD)) = true) : ds.length ≤ 4000 ∧ ∀ r ∈ ds, nmOk r.2.2.2 = true := by
  cases n with
  | zero => cases h
  | succ n => obtain ⟨h1, h2⟩ := ok_tupm.mp h; exact ⟨h1, fun r hr => dra_of (h2 r hr)⟩
def filledL (ds : List Dra) (os : List Int) : List Row := (os.zip ds).map fun p => (p.1, p.2.2.2.1, p.2.2.2.2)
theorem pures_c {d : D} {ds : List D} (h : D.pure d = true) (h2 : D.pures ds = true) : D.pures (d :: ds) = true := by simp [D.pures, h, h2]
theorem filled_ok {drafts opens : D} {ds : List Dra} {os : List Int} (h1 : D.ok 13 drafts = true) (t1 : tupD drafts = .tup (ds.map encD)) (h2 : D.ok 13 opens = true) (t2 : tupD opens = .tup (os.map .int)) :
    Rg c_filled [drafts, opens] (.tup ((filledL ds os).map encR)) := by
  have l1 := (dras_of (t1 ▸ ok_tupD h1)).1
  have l2 := ints_of (t2 ▸ ok_tupD h2)
  unfold Rg c_filled
  repeat walk_at "w"
  refine wC_pure (t2 ▸ tupled_ok h2) (pures1 (ok_pure h2)) ?_
  repeat walk_at "w"
  refine wC_pure (t1 ▸ tupled_ok h1) (pures1 (ok_pure h1)) ?_
  repeat walk_at "w"
  refine ⟨by simp [zipD_maps]; omega, ?_⟩
  show wK _ _ _ _ _ (zipD (os.map .int) (ds.map encD)) _ _ _
  rw [zipD_maps]
  refine wK_map0 (g := fun p => encR (p.1, p.2.2.2.1, p.2.2.2.2)) rfl _ [] (fun p hp => ⟨_, rfl, ?_⟩) ?_
  · repeat walk_at "w"
    rfl
  · repeat walk_at "w"
    rw [List.nil_append, show ((os.zip ds).map fun p => encR (p.1, p.2.2.2.1, p.2.2.2.2)) = (filledL ds os).map encR by unfold filledL; rw [List.map_map]; rfl]
    exact frz_pure (by simp [D.pure, pure_rows])
/-- the drafts are filled so -/
def fillsB : List Dra → List Row → Bool
  | [], [] => true
  | d :: ds, r :: rs => (decide (r.2 = d.2.2) && (decide (d.1 ≤ r.1) && decide (r.1 ≤ d.2.1))) && fillsB ds rs
  | _, _ => false
theorem fillsB_append : ∀ {A : List Dra} {A' : List Row} {C : List Dra} {C' : List Row}, A.length = A'.length → fillsB (A ++ C) (A' ++ C') = (fillsB A A' && fillsB C C')
  | [], [], _, _, _ => by simp [fillsB]
  | a :: A, b :: A', C, C', h => by simp only [List.cons_append, fillsB]; rw [fillsB_append (by simpa using h)]; simp only [Bool.and_assoc]
theorem fillsB_len : ∀ {ds : List Dra} {rs : List Row}, fillsB ds rs = true → ds.length = rs.length
  | [], [], _ => rfl
  | [], _ :: _, h => by simp [fillsB] at h
  | _ :: _, [], h => by simp [fillsB] at h
  | d :: ds, r :: rs, h => by simp only [fillsB, Bool.and_eq_true] at h; simp [fillsB_len h.2]
theorem fillsB_eq : ∀ {ds : List Dra} {rs : List Row}, ds.length = rs.length → fillsB ds rs = (decide (filledL ds (rs.map (·.1)) = rs) && (ds.zip rs).all fun p => decide (p.1.1 ≤ p.2.1) && decide (p.2.1 ≤ p.1.2.1))
  | [], [], _ => by simp [fillsB, filledL]
  | d :: ds, r :: rs, h => by
    have ih := fillsB_eq (ds := ds) (rs := rs) (by simpa using h)
    rw [fillsB, ih]
    rw [show (d :: ds).zip (r :: rs) = (d, r) :: ds.zip rs from rfl, List.all_cons]
    have e : decide (filledL (d :: ds) ((r :: rs).map (·.1)) = r :: rs) = (decide (r.2 = d.2.2) && decide (filledL ds (rs.map (·.1)) = rs)) := by
      have : filledL (d :: ds) ((r :: rs).map (·.1)) = (r.1, d.2.2) :: filledL ds (rs.map (·.1)) := rfl
      rw [this]
      obtain ⟨r1, r2⟩ := r
      have i : ((r1, d.2.2) :: filledL ds (rs.map (·.1)) = (r1, r2) :: rs) ↔ (r2 = d.2.2 ∧ filledL ds (rs.map (·.1)) = rs) := by
        rw [List.cons.injEq, Prod.mk.injEq]
        constructor
        · rintro ⟨⟨_, a⟩, b⟩; exact ⟨a.symm, b⟩
        · rintro ⟨a, b⟩; exact ⟨⟨rfl, a.symm⟩, b⟩
      by_cases q : r2 = d.2.2 ∧ filledL ds (rs.map (·.1)) = rs
      · rw [decide_eq_true (i.mpr q), decide_eq_true q.1, decide_eq_true q.2]; rfl
      · rw [decide_eq_false fun z => q (i.mp z)]
        by_cases q1 : r2 = d.2.2
        · rw [decide_eq_true q1, decide_eq_false fun z => q ⟨q1, z⟩]; rfl
        · rw [decide_eq_false q1]; rfl
    rw [e]
    cases decide (r.2 = d.2.2) <;> cases (decide (d.1 ≤ r.1) && decide (r.1 ≤ d.2.1)) <;> simp
theorem fills_ok {drafts some' : D} {ds : List Dra} {rs : List Row} (h1 : D.ok 13 drafts = true) (t1 : tupD drafts = .tup (ds.map encD)) (h2 : D.ok 13 some' = true) (t2 : tupD some' = .tup (rs.map encR)) :
    Rg c_fills [drafts, some'] (.bl (fillsB ds rs)) := by
  have o1 := dras_of (t1 ▸ ok_tupD h1)
  have o2 := rows_of (t2 ▸ ok_tupD h2)
  unfold Rg c_fills
  repeat walk_at "w"
  refine wC_pure (t1 ▸ tupled_ok h1) (pures1 (ok_pure h1)) ?_
  repeat walk_at "w"
  refine wC_pure (t2 ▸ tupled_ok h2) (pures1 (ok_pure h2)) ?_
  repeat walk_at "w"
  refine b_nd (fun hne => ?_) (fun he => ?_)
  · repeat walk_at "w"
    have : fillsB ds rs = false := by
      cases e : fillsB ds rs with
      | false => rfl
      | true => exact absurd (by rw [List.length_map, List.length_map, fillsB_len e]) hne
    rw [this]; rfl
  · have hlen : ds.length = rs.length := by simp only [List.length_map] at he; omega
    repeat walk_at "w"
    refine ⟨by simp; exact o2.1, ?_⟩
    show wK _ _ _ _ _ (rs.map encR) _ _ _
    refine wK_map0 (g := fun r : Row => .int r.1) rfl _ [] (fun p hp => ⟨_, rfl, ?_⟩) ?_
    · repeat walk_at "w"
      rfl
    repeat walk_at "w"
    rw [List.nil_append]
    have q2 : D.ok 13 (.lst (rs.map fun r : Row => D.int r.1)) = true := ok_lstm.mpr ⟨o2.1, fun _ _ => rfl⟩
    have q1 : D.ok 13 (.tup (ds.map encD)) = true := t1 ▸ ok_tupD h1
    have q3 : tupD (.tup (ds.map encD)) = .tup (ds.map encD) := by
      rw [tupD_tup, List.map_map]
      congr 1
      refine List.map_congr_left fun d _ => ?_
      simp [encD, encN, Function.comp_def]
    refine wC_pure (filled_ok (os := rs.map (·.1)) q1 q3 q2 (by rw [tupD_lst, List.map_map, List.map_map]; rfl)) (pures2 (ok_pure q1) (ok_pure q2)) ?_
    repeat walk_at "w"
    have r1 : D.okn 3 (.tup ((filledL ds (rs.map (·.1))).map encR)) = true := okn_rows (by unfold filledL; simp; omega) fun r hr => by
      unfold filledL at hr
      obtain ⟨p, hp, rfl⟩ := List.mem_map.mp hr
      exact o1.2 _ (List.of_mem_zip hp).2
    refine v_ne r1 (okn_rows o2.1 o2.2) ?_
    rw [beq_rows]
    refine ⟨_, rfl, b_nd (fun hf => ?_) (fun hf => ?_)⟩
    · repeat walk_at "w"
      rw [fillsB_eq hlen, decide_eq_false hf]
      rfl
    · repeat walk_at "w"
      refine ⟨by simp [zipD_maps]; omega, ?_⟩
      show wK _ _ _ _ _ (zipD (ds.map encD) (rs.map encR)) _ _ _
      rw [zipD_maps]
      refine wK_map0 (g := fun p : Dra × Row => .bl (decide (p.1.1 ≤ p.2.1) && decide (p.2.1 ≤ p.1.2.1))) rfl _ [] (fun p hp => ⟨_, rfl, ?_⟩) ?_
      · repeat walk_at "w"
        refine b_d (fun h => ?_) (fun h => ?_)
        · repeat walk_at "w"
          rw [decide_eq_true h]
          exact ⟨rfl, rfl⟩
        · repeat walk_at "w"
          rw [decide_eq_false h]
          exact ⟨rfl, rfl⟩
      rw [List.nil_append]
      refine v_all ?_
      repeat walk_at "w"
      rw [fillsB_eq hlen, decide_eq_true hf, Bool.true_and]
      rfl
end MM
set_option maxRecDepth 100000
set_option maxHeartbeats 1000000
namespace MM
open PySem PySem.Spec PyProof.Rows L2
local instance tab_Mm26 : Tabl := tab0
local macro_rules | `(tactic| walk_at "w") => `(tactic| with_reducible first
  | refine e_var (by with_unfolding_all rfl) ?_ | refine e_c ?_ | refine e_m2 ?_ | refine e_m1 ?_ | refine e_new ?_ | refine e_ch ?_ | refine e_and ?_ | refine e_or ?_ | refine e_not ?_ | refine e_if ?_ | refine e_tup ?_ | refine e_lst ?_ | refine e_sl ?_ | refine e_app ?_
  | refine e_callR ?_ | refine e_call ?_ | refine e_comp ?_ | refine t_b1 ?_ | refine t_tr ?_ | refine t_an ?_ | refine t_or ?_ | refine t_no ?_ | refine t_true ?_ | refine a_nil ?_ | refine a_cons ?_ | refine a_pick ?_ | refine o_no ?_ | refine o_so ?_
  | refine s_nil ?_ | refine s_retn ?_ | refine s_brk ?_ | refine s_cnt ?_ | refine s_seq ?_ | refine s_set ?_ | refine s_expr ?_ | refine s_ret ?_ | refine s_if ?_ | refine s_asg ?_ | refine s_par ?_ | refine s_sub ?_ | refine f_fn ?_
  | refine n_then ?_ | refine n_thenr ?_ | refine n_thenb ?_ | refine n_thenc ?_ | refine n_endr ?_ | refine n_endn ?_ | refine n_turn ?_ | refine n_turnc ?_ | refine n_turnb ?_ | refine n_turnr ?_ | refine i_seq ?_ | refine i_zip ?_ | refine i_enm ?_ | refine i_rg1 ?_ | refine i_rg2 ?_
  | refine b_t ?_ | refine b_f ?_ | refine v_addI ?_ | refine v_sub ?_ | refine v_some ?_
  | refine v_mod (by first | assumption | decide | omega) ?_
  | refine v_div (by first | assumption | decide | omega) ?_
  | refine v_ix (by with_unfolding_all rfl) (by with_unfolding_all rfl) (by with_unfolding_all rfl) ?_
  | refine v_tupl (by with_unfolding_all rfl) ?_ | refine v_list (by with_unfolding_all rfl) ?_ | refine v_len (by with_unfolding_all rfl) (by with_unfolding_all rfl) ?_
  | refine v_mul (by first | assumption | exact okM_l (by decide) (by decide) | exact okM_r (by decide) (by decide) | exact okM_l (by omega) (by omega) | exact okM_r (by omega) (by omega)) ?_
  | refine v_eqI ?_ | refine v_neI ?_ | refine v_mk (by with_unfolding_all rfl) ?_
  | refine Exists.intro _ (And.intro (by with_unfolding_all rfl) ?_)
  | refine And.intro (by first | assumption | (with_unfolding_all exact Nat.le_of_ble_eq_true rfl) | (with_unfolding_all decide) | (with_unfolding_all rfl)) ?_
  | refine Exists.intro _ (Exists.intro _ (Exists.intro _ (And.intro (by with_unfolding_all rfl) (And.intro (by with_unfolding_all rfl) (And.intro (by with_unfolding_all rfl) ?_)))))
  | refine Exists.intro _ (Exists.intro _ (Exists.intro _ (Exists.intro _ (And.intro (by with_unfolding_all rfl) (And.intro (by with_unfolding_all rfl) (And.intro (by with_unfolding_all rfl) (And.intro (by with_unfolding_all rfl) ?_)))))))
  | refine b_eq (z := true) (by with_unfolding_all rfl) ?_ | refine b_eq (z := false) (by with_unfolding_all rfl) ?_)
/-! ### more tools -/
def isTr : Option (D × Store) → Bool
  | some (.bl true, _) => true
  | _ => false
theorem rg_of_true {F : Fn} {ds : List D} (h : isTr (F ds []) = true) : Rg F ds (.bl true) := by
  unfold isTr at h
  split at h
  · rename_i S e; exact ⟨_, _, e, rfl⟩
  · cases h
theorem frz_loc {S : Store} {k n : Nat} {xs : List D} (h : S[k]? = some (.lst xs)) (hp : D.pures xs = true) : frzD S (n + 2) (.loc k) = some (.lst xs) := by
  unfold frzD
  rw [if_neg (by simp [D.pure])]
  show (match S[k]? with | some (D.lst xs) => (xs.mapM (frzD S (n + 1))).map D.lst | some (D.dic ks vs) => (vs.mapM (frzD S (n + 1))).map (D.dic ks) | some (D.obj c fs) => (fs.mapM (frzD S (n + 1))).map (D.obj c) | _ => none) = _
  rw [h]
  dsimp only
  rw [frzM_pure hp]
  rfl
theorem fzs_cons {S : Store} {d r : D} {ds rs : List D} (h : frzD S 30 d = some r) (h2 : fzs S ds = some rs) : fzs S (d :: ds) = some (r :: rs) := by
  unfold fzs
  rw [h, h2]
  rfl
theorem flat_strs (ns : List Str) : D.flats (ns.map .str) = true := flats_of fun x hx => by
  obtain ⟨s, _, rfl⟩ := List.mem_map.mp hx; rfl
theorem flat_encR (r : Row) : D.flat (encR r) = true := by
  simp [encR, encN, D.flat, D.flats, flat_strs]
theorem flat_rows (rows : List Row) : D.flat (.tup (rows.map encR)) = true := by
  simp only [D.flat]
  exact flats_of fun x hx => by
    obtain ⟨s, _, rfl⟩ := List.mem_map.mp hx; exact flat_encR s
@[simp] theorem tupD_encN (ns : List Str) : tupD (encN ns) = encN ns := by simp [encN, Function.comp_def]
@[simp] theorem tupD_encR (r : Row) : tupD (encR r) = encR r := by simp [encR]
@[simp] theorem tupD_encD (r : Dra) : tupD (encD r) = encD r := by simp [encD]
theorem tupD_rows (rows : List Row) : tupD (.tup (rows.map encR)) = .tup (rows.map encR) := by simp [Function.comp_def]
theorem tupD_rowsL (rows : List Row) : tupD (.lst (rows.map encR)) = .tup (rows.map encR) := by simp [Function.comp_def]
theorem tupD_dras (ds : List Dra) : tupD (.tup (ds.map encD)) = .tup (ds.map encD) := by simp [Function.comp_def]
theorem tupD_ints (l : List Int) : tupD (.tup (l.map .int)) = .tup (l.map .int) := by simp [Function.comp_def]
theorem tupD_intsL (l : List Int) : tupD (.lst (l.map .int)) = .tup (l.map .int) := by simp [Function.comp_def]
theorem ok_row {r : Row} (h : nmOk r.2.2 = true) : D.ok 2 (encR r) = true := okn_ok (okn_row h)
theorem ok_rows {rows : List Row} (hl : rows.length ≤ 4000) (h : ∀ r ∈ rows, nmOk r.2.2 = true) : D.ok 3 (.tup (rows.map encR)) = true := okn_ok (okn_rows hl h)
theorem ok_pair {n : Nat} {a b : D} (h1 : D.ok n a = true) (h2 : D.ok n b = true) : D.ok (n + 1) (.lst [a, b]) = true := ok_lst.mpr ⟨n, rfl, by simp, fun x hx => by
  simp at hx
  rcases hx with e | e <;> subst e <;> assumption⟩
theorem beq_names {a b : List Str} : D.beq (encN a) (encN b) = decide (a = b) := by
  rw [beq_dec]
  by_cases h : a = b
  · subst h; rw [decide_eq_true rfl, decide_eq_true rfl]
  · rw [decide_eq_false h, decide_eq_false fun z => h (encN_inj z)]
theorem split_at {α : Type} {l : List α} {k : Nat} {x : α} (h : l[k]? = some x) : l = l.take k ++ x :: l.drop (k + 1) := by
  obtain ⟨hk, rfl⟩ := List.getElem?_eq_some_iff.mp h
  rw [List.getElem_cons_drop, List.take_append_drop]
theorem v_addN {a c : List Str} {S : Store} {R : D → Prop} (h : a.length + c.length ≤ 4000) (q : R (encN (a ++ c))) : wV (fAdd S (encN a) (encN c)) R := by
  unfold encN
  refine v_addT (by simpa using h) ?_
  rw [← List.map_append]
  exact q
theorem cut_all {xs : List D} {m : Nat} : cutD xs (some ((m : Int) + 1)) none = xs.drop (m + 1) := by
  unfold cutD
  rw [show ((m : Int) + 1) = ((m + 1 : Nat) : Int) by omega, HT.sIx_nat, HT.sIx_none]
  by_cases h : m + 1 ≤ xs.length
  · rw [Nat.min_eq_left h, List.take_of_length_le (by simp)]
  · rw [List.drop_eq_nil_of_le (as := xs) (i := m + 1) (by omega), List.drop_eq_nil_of_le (by omega)]; simp
theorem nmOk_app {a c : List Str} (h : a.length + c.length ≤ 4000) (h1 : nmOk a = true) (h2 : nmOk c = true) : nmOk (a ++ c) = true := by
  unfold nmOk at *
  simp only [Bool.and_eq_true, decide_eq_true_eq, List.all_eq_true, List.length_append] at *
  exact ⟨h, fun x hx => (List.mem_append.mp hx).elim (h1.2 x) (h2.2 x)⟩
theorem lists_seq {n : Nat} {S : Store} {d : D} {xs : List D} {Q : D → Store → Prop} (hd : d = .tup xs ∨ d = .lst xs) (hl : xs.length ≤ 4000) (hx : ∀ x ∈ xs, D.ok n x = true) (q : Q (.lst (xs.map lisD)) S) : wF (c_law_lists (n + 2)) [d] S Q := by
  unfold c_law_lists
  have h0 : ∀ S, fIsi2 [.lst, .tup] S d = some (.bl true) := fun S => by rcases hd with h | h <;> subst h <;> rfl
  have h1 : ∀ S, itsOf S d = some ⟨xs, []⟩ := fun S => by rcases hd with h | h <;> subst h <;> rfl
  repeat walk_at "w"
  refine v_mk (h0 _) ?_
  repeat walk_at "w"
  refine v_mk (h1 _) ?_
  refine ⟨hl, ?_⟩
  rw [show (⟨xs, []⟩ : Its).items = xs.map id from map_id_eq]
  refine wK_map0 (g := lisD) still_nil xs [] (fun x hm => ⟨_, rfl, ?_⟩) ?_
  · repeat walk_at "w"
    exact wC_pure (lists_ok (hx x hm)) (pures1 (ok_pure (hx x hm))) ⟨rfl, rfl⟩
  · repeat walk_at "w"
    simpa using q
end MM
set_option maxRecDepth 100000
set_option maxHeartbeats 1000000
namespace MM
open PySem PySem.Spec PyProof.Rows L2
local instance tab_Mp1 : Tabl := tab0
/-! ### the plain side of objects, dicts, ranges, keyed sorts -/
section
variable {e : MEnv} {S : Store} {Q : D → Store → Prop} {B : Fl → MEnv → Store → Prop} {R : D → Prop}
theorem e_recv {c : Str} {o : M} (h : wE o e S fun x S1 => (∃ fs, deref S1 x = some (.obj c fs)) ∧ Q x S1) : wE (mRecv c o) e S Q := by
  obtain ⟨d, S', h1, ⟨fs, h2⟩, q⟩ := h
  refine ⟨d, S', ?_, q⟩
  unfold mRecv
  rw [h1]
  show (match deref S' d with | some (.obj c' _) => if c' = c then some (d, S') else none | _ => none) = _
  rw [h2]
  exact if_pos rfl
theorem e_makeR {c : Str} {F : Fn} {ar : Nat} {as : MA} (h : wA as e S fun ds S1 => (ds.length + 1 = ar ∧ D.pures ds = true) ∧ wF F (.loc 0 :: ds) [.obj c []] fun d S2 => d = .non ∧ ∃ r, frzD S2 30 (.loc 0) = some r ∧ Q r S1) : wE (mMakeR c F ar as) e S Q := by
  obtain ⟨ds, S1, h1, h2, d, S2, h3, rfl, r, h4, q⟩ := h
  refine ⟨r, S1, ?_, q⟩
  unfold mMakeR
  rw [h1]
  show (if ds.length + 1 = ar ∧ D.pures ds = true then (F (.loc 0 :: ds) [.obj c []]).bind _ else none) = _
  rw [if_pos h2, h3]
  show (frzD S2 30 (.loc 0)).map _ = _
  rw [h4]
  rfl
/-- a call's new list -/
def Rn (F : Fn) (ds : List D) (d : D) : Prop := wF F ds [] fun x S' => ∃ k, x = .loc k ∧ frzC S' k = some d
theorem e_callN {F : Fn} {ar : Nat} {as : MA} (h : wA as e S fun ds S1 => (ds.length = ar ∧ D.pures ds = true) ∧ ∃ d, Rn F ds d ∧ Q d S1) : wE (mCallN F ar as) e S Q := by
  obtain ⟨ds, S1, h1, ⟨h2, hp⟩, d, ⟨x, S2, h3, k, rfl, h4⟩, q⟩ := h
  refine ⟨d, S1, ?_, q⟩
  unfold mCallN callN
  rw [h1]
  show (if ds.length = ar then (if D.pures ds = true then (F ds []).bind _ else none).map _ else none) = _
  rw [if_pos h2, if_pos hp, h3]
  show (frzC S2 k).map _ = _
  rw [h4]
  rfl
theorem s_attr {c : Str} {i : Nat} {v o : M} (h : wE v e S fun x S1 => wE o e S1 fun y S2 => ∃ n fs, y = .loc n ∧ S2[n]? = some (.obj c fs) ∧ B .nx e (S2.set n (.obj c (putD i x fs)))) : wS (sAttr c i v o) e S B := by
  obtain ⟨x, S1, h1, y, S2, h2, n, fs, rfl, h3, q⟩ := h
  refine ⟨.nx, e, _, ?_, q⟩
  unfold sAttr
  rw [h1]
  show (o e S1).bind _ = _
  rw [h2]
  show (match S2[n]? with | some (.obj c' fs) => if c' = c then some (Fl.nx, e, S2.set n (.obj c (putD i x fs))) else none | _ => none) = _
  rw [h3]
  exact if_pos rfl
theorem e_rgL1 {m : M} (h : wE m e S fun x S1 => ∃ n, x = .int n ∧ (-4000 ≤ n ∧ n ≤ 4000) ∧ Q (.lst (rngD 0 n.toNat)) S1) : wE (mRgL1 m) e S Q := by
  obtain ⟨x, S1, h1, n, rfl, h2, q⟩ := h
  refine ⟨_, S1, ?_, q⟩
  unfold mRgL1
  rw [h1]
  show (if -4000 ≤ n ∧ n ≤ 4000 then some (D.lst (rngD 0 n.toNat), S1) else none) = _
  exact if_pos h2
theorem v_attr {c : Str} {i : Nat} {x d : D} {fs : List D} (h : deref S x = some (.obj c fs)) (h2 : okF fs[i]? = some d) (q : R d) : wV (fAttr c i S x) R := by
  refine ⟨d, ?_, q⟩
  unfold fAttr
  rw [h]
  show (if c = c then okF fs[i]? else none) = _
  rw [if_pos rfl, h2]
theorem s_dput {v o i : M} (h : wE v e S fun x S1 => wE o e S1 fun y S2 => wE i e S2 fun z S3 => ∃ n ks vs, y = .loc n ∧ (keyD z).isSome = true ∧ S3[n]? = some (.dic ks vs) ∧ (isK ks = true ∧ ks.length ≤ 4000) ∧ B .nx e (S3.set n (dPut ks vs z x))) : wS (sDPutM v o i) e S B := by
  obtain ⟨x, S1, h1, y, S2, h2, z, S3, h3, n, ks, vs, rfl, h4, h5, h6, q⟩ := h
  obtain ⟨k, hk⟩ := Option.isSome_iff_exists.mp h4
  refine ⟨.nx, e, _, ?_, q⟩
  unfold sDPutM
  rw [h1]
  show (o e S1).bind _ = _
  rw [h2]
  show (i e S2).bind _ = _
  rw [h3]
  show ((keyD z).bind fun _ => (cellD S3 n).map _) = _
  rw [hk]
  show (cellD S3 n).map _ = _
  unfold cellD
  rw [h5]
  show (if isK ks = true ∧ ks.length ≤ 4000 then some (ks, vs) else none).map _ = _
  rw [if_pos h6]
  rfl
end
end MM
set_option maxRecDepth 100000
set_option maxHeartbeats 1000000
namespace MM
open PySem PySem.Spec PyProof.Rows L2
local instance tab_Mp2 : Tabl := tab0
local macro_rules | `(tactic| walk_at "w") => `(tactic| with_reducible first
  | refine e_var (by with_unfolding_all rfl) ?_ | refine e_c ?_ | refine e_m2 ?_ | refine e_m1 ?_ | refine e_new ?_ | refine e_ch ?_ | refine e_and ?_ | refine e_or ?_ | refine e_not ?_ | refine e_if ?_ | refine e_tup ?_ | refine e_lst ?_ | refine e_sl ?_ | refine e_app ?_
  | refine e_callR ?_ | refine e_call ?_ | refine e_comp ?_ | refine t_b1 ?_ | refine t_tr ?_ | refine t_an ?_ | refine t_or ?_ | refine t_no ?_ | refine t_true ?_ | refine a_nil ?_ | refine a_cons ?_ | refine a_pick ?_ | refine o_no ?_ | refine o_so ?_
  | refine s_nil ?_ | refine s_retn ?_ | refine s_brk ?_ | refine s_cnt ?_ | refine s_seq ?_ | refine s_set ?_ | refine s_expr ?_ | refine s_ret ?_ | refine s_if ?_ | refine s_asg ?_ | refine s_par ?_ | refine s_sub ?_ | refine f_fn ?_
  | refine n_then ?_ | refine n_thenr ?_ | refine n_thenb ?_ | refine n_thenc ?_ | refine n_endr ?_ | refine n_endn ?_ | refine n_turn ?_ | refine n_turnc ?_ | refine n_turnb ?_ | refine n_turnr ?_ | refine i_seq ?_ | refine i_zip ?_ | refine i_enm ?_ | refine i_rg1 ?_ | refine i_rg2 ?_
  | refine b_t ?_ | refine b_f ?_ | refine v_addI ?_ | refine v_sub ?_ | refine v_some ?_
  | refine v_mod (by first | assumption | decide | omega) ?_
  | refine v_div (by first | assumption | decide | omega) ?_
  | refine v_ix (by with_unfolding_all rfl) (by with_unfolding_all rfl) (by with_unfolding_all rfl) ?_
  | refine v_tupl (by with_unfolding_all rfl) ?_ | refine v_list (by with_unfolding_all rfl) ?_ | refine v_len (by with_unfolding_all rfl) (by with_unfolding_all rfl) ?_
  | refine v_mul (by first | assumption | exact okM_l (by decide) (by decide) | exact okM_r (by decide) (by decide) | exact okM_l (by omega) (by omega) | exact okM_r (by omega) (by omega)) ?_
  | refine v_eqI ?_ | refine v_neI ?_ | refine v_mk (by with_unfolding_all rfl) ?_
  | refine Exists.intro _ (And.intro (by with_unfolding_all rfl) ?_)
  | refine And.intro (by first | assumption | (with_unfolding_all exact Nat.le_of_ble_eq_true rfl) | (with_unfolding_all decide) | (with_unfolding_all rfl)) ?_
  | refine Exists.intro _ (Exists.intro _ (Exists.intro _ (And.intro (by with_unfolding_all rfl) (And.intro (by with_unfolding_all rfl) (And.intro (by with_unfolding_all rfl) ?_)))))
  | refine Exists.intro _ (Exists.intro _ (Exists.intro _ (Exists.intro _ (And.intro (by with_unfolding_all rfl) (And.intro (by with_unfolding_all rfl) (And.intro (by with_unfolding_all rfl) (And.intro (by with_unfolding_all rfl) ?_)))))))
  | refine b_eq (z := true) (by with_unfolding_all rfl) ?_ | refine b_eq (z := false) (by with_unfolding_all rfl) ?_)
local macro_rules | `(tactic| walk_at "v") => `(tactic| with_reducible first
  | walk_at "w" | refine e_recv ?_ | refine e_makeR ?_ | refine s_attr ?_ | refine e_rgL1 ?_ | refine e_callN ?_)
abbrev cSes : Str := Str.ofString "Sessions"
def RT (rows : List Row) : D := .tup (rows.map encR)
def SesD (rows : List Row) : D := .obj cSes [RT rows]
theorem pure_RT (rows : List Row) : D.pure (RT rows) = true := by
  unfold RT
  rw [D.pure]
  exact pure_rows rows
theorem pure_ses (rows : List Row) : D.pure (SesD rows) = true := by
  unfold SesD RT
  simp [D.pure, D.pureo, pure_rows]
theorem ses_init {d : D} {rows : List Row} (h : D.ok 13 d = true) (t : tupD d = RT rows) : wF c_Sessions_init [.loc 0, d] [.obj cSes []] fun x S2 => x = .non ∧ ∃ r, frzD S2 30 (.loc 0) = some r ∧ r = SesD rows := by
  unfold c_Sessions_init
  repeat walk_at "v"
  refine wC_pure (tupled_ok (n := 13) h) (pures1 (ok_pure h)) ?_
  repeat walk_at "v"
  refine ⟨0, [], rfl, rfl, ?_⟩
  repeat walk_at "v"
  rw [t]
  refine ⟨_, ?_, rfl⟩
  show frzD [.obj cSes [RT rows]] 30 (.loc 0) = some (.obj cSes [RT rows])
  unfold frzD
  rw [if_neg (by simp [D.pure])]
  show (([RT rows]).mapM (frzD _ 29)).map (D.obj cSes) = _
  rw [frzM_pure (by simp [D.pures, pure_RT])]
  rfl
theorem ses_get {rows : List Row} {k : Nat} {r : Row} (h : rows[k]? = some r) : atI (rows.map encR) (k : Int) = some (encR r) := atI_mapf h
theorem ses_opening {rows : List Row} {k : Nat} {r : Row} (h : rows[k]? = some r) : Rg c_Sessions_opening [SesD rows, .int k] (.int r.1) := by
  unfold Rg c_Sessions_opening
  repeat walk_at "v"
  refine v_ix (xs := rows.map encR) rfl (ses_get h) rfl ?_
  repeat walk_at "v"
  rfl
theorem ses_saving {rows : List Row} {k : Nat} {r : Row} (h : rows[k]? = some r) : Rg c_Sessions_saving [SesD rows, .int k] (.int r.2.1) := by
  unfold Rg c_Sessions_saving
  repeat walk_at "v"
  refine v_ix (xs := rows.map encR) rfl (ses_get h) rfl ?_
  repeat walk_at "v"
  rfl
theorem pure_encN (ns : List Str) : D.pure (encN ns) = true := by
  unfold encN
  rw [D.pure]
  exact pure_strs ns
theorem ses_names {rows : List Row} {k : Nat} {r : Row} (h : rows[k]? = some r) : Rg c_Sessions_names [SesD rows, .int k] (encN r.2.2) := by
  unfold Rg c_Sessions_names
  repeat walk_at "v"
  refine v_ix (xs := rows.map encR) rfl (ses_get h) rfl ?_
  repeat walk_at "v"
  exact frz_pure (pure_encN _)
theorem pure_ses2 (rows : List Row) (k : Int) : D.pures [SesD rows, .int k] = true := by simp [D.pures, pure_ses, D.pure]
theorem pure_ses3 (rows : List Row) (k j : Int) : D.pures [SesD rows, .int k, .int j] = true := by simp [D.pures, pure_ses, D.pure]
/-- rj opens, rk saves, rj saves -/
def amid (rk rj : Row) : Bool := decide (rj.1 < rk.2.1) && decide (rk.2.1 < rj.2.1)
theorem ses_is_between {rows : List Row} {k j : Nat} {rk rj : Row} (hk : rows[k]? = some rk) (hj : rows[j]? = some rj) : Rg c_Sessions_is_between [SesD rows, .int k, .int j] (.bl (amid rk rj)) := by
  unfold Rg c_Sessions_is_between
  repeat walk_at "v"
  refine ⟨⟨_, rfl⟩, ?_⟩
  repeat walk_at "v"
  refine wC_pure (ses_opening hj) (pure_ses2 _ _) ?_
  repeat walk_at "v"
  refine ⟨⟨_, rfl⟩, ?_⟩
  repeat walk_at "v"
  refine wC_pure (ses_saving hk) (pure_ses2 _ _) ?_
  repeat walk_at "v"
  unfold amid
  by_cases h1 : rj.1 < rk.2.1
  · rw [decide_eq_true h1]
    refine b_t ?_
    repeat walk_at "v"
    refine ⟨⟨_, rfl⟩, ?_⟩
    repeat walk_at "v"
    refine wC_pure (ses_saving hj) (pure_ses2 _ _) ?_
    simp only [Bool.true_and]
    repeat walk_at "v"
    rfl
  · rw [decide_eq_false h1]
    refine b_f ?_
    repeat walk_at "v"
    rfl
end MM
set_option maxRecDepth 100000
set_option maxHeartbeats 1000000
namespace MM
open PySem PySem.Spec PyProof.Rows L2
local instance tab_Mp3 : Tabl := tab0
local macro_rules | `(tactic| walk_at "w") => `(tactic| with_reducible first
  | refine e_var (by with_unfolding_all rfl) ?_ | refine e_c ?_ | refine e_m2 ?_ | refine e_m1 ?_ | refine e_new ?_ | refine e_ch ?_ | refine e_and ?_ | refine e_or ?_ | refine e_not ?_ | refine e_if ?_ | refine e_tup ?_ | refine e_lst ?_ | refine e_sl ?_ | refine e_app ?_
  | refine e_callR ?_ | refine e_call ?_ | refine e_comp ?_ | refine t_b1 ?_ | refine t_tr ?_ | refine t_an ?_ | refine t_or ?_ | refine t_no ?_ | refine t_true ?_ | refine a_nil ?_ | refine a_cons ?_ | refine a_pick ?_ | refine o_no ?_ | refine o_so ?_
  | refine s_nil ?_ | refine s_retn ?_ | refine s_brk ?_ | refine s_cnt ?_ | refine s_seq ?_ | refine s_set ?_ | refine s_expr ?_ | refine s_ret ?_ | refine s_if ?_ | refine s_asg ?_ | refine s_par ?_ | refine s_sub ?_ | refine f_fn ?_
  | refine n_then ?_ | refine n_thenr ?_ | refine n_thenb ?_ | refine n_thenc ?_ | refine n_endr ?_ | refine n_endn ?_ | refine n_turn ?_ | refine n_turnc ?_ | refine n_turnb ?_ | refine n_turnr ?_ | refine i_seq ?_ | refine i_zip ?_ | refine i_enm ?_ | refine i_rg1 ?_ | refine i_rg2 ?_
  | refine b_t ?_ | refine b_f ?_ | refine v_addI ?_ | refine v_sub ?_ | refine v_some ?_
  | refine v_mod (by first | assumption | decide | omega) ?_
  | refine v_div (by first | assumption | decide | omega) ?_
  | refine v_ix (by with_unfolding_all rfl) (by with_unfolding_all rfl) (by with_unfolding_all rfl) ?_
  | refine v_tupl (by with_unfolding_all rfl) ?_ | refine v_list (by with_unfolding_all rfl) ?_ | refine v_len (by with_unfolding_all rfl) (by with_unfolding_all rfl) ?_
  | refine v_mul (by first | assumption | exact okM_l (by decide) (by decide) | exact okM_r (by decide) (by decide) | exact okM_l (by omega) (by omega) | exact okM_r (by omega) (by omega)) ?_
  | refine v_eqI ?_ | refine v_neI ?_ | refine v_mk (by with_unfolding_all rfl) ?_
  | refine Exists.intro _ (And.intro (by with_unfolding_all rfl) ?_)
  | refine And.intro (by first | assumption | (with_unfolding_all exact Nat.le_of_ble_eq_true rfl) | (with_unfolding_all decide) | (with_unfolding_all rfl)) ?_
  | refine Exists.intro _ (Exists.intro _ (Exists.intro _ (And.intro (by with_unfolding_all rfl) (And.intro (by with_unfolding_all rfl) (And.intro (by with_unfolding_all rfl) ?_)))))
  | refine Exists.intro _ (Exists.intro _ (Exists.intro _ (Exists.intro _ (And.intro (by with_unfolding_all rfl) (And.intro (by with_unfolding_all rfl) (And.intro (by with_unfolding_all rfl) (And.intro (by with_unfolding_all rfl) ?_)))))))
  | refine b_eq (z := true) (by with_unfolding_all rfl) ?_ | refine b_eq (z := false) (by with_unfolding_all rfl) ?_)
local macro_rules | `(tactic| walk_at "v") => `(tactic| with_reducible first
  | walk_at "w" | refine e_recv ?_ | refine e_makeR ?_ | refine s_attr ?_ | refine e_rgL1 ?_ | refine e_callN ?_)
theorem mapM_flatS : ∀ ns : List Str, (ns.map D.str).mapM flatD = some (ns.map V.str)
  | [] => rfl
  | x :: ns => by rw [List.map_cons, List.mapM_cons]; show (flatD (.str x)).bind _ = _; rw [mapM_flatS ns]; rfl
theorem mapM_flatI {α : Type} {f : α → Int} : ∀ ns : List α, (ns.map fun x => D.int (f x)).mapM flatD = some (ns.map fun x => V.int (f x))
  | [] => rfl
  | x :: ns => by rw [List.map_cons, List.mapM_cons]; show (flatD (.int (f x))).bind _ = _; rw [mapM_flatI ns]; rfl
theorem v_inN {a : Str} {ns : List Str} {S : Store} {R : D → Prop} (q : R (.bl (decide (a ∈ ns)))) : wV (fIn S (.str a) (encN ns)) R := by
  refine ⟨_, ?_, q⟩
  unfold fIn inD
  have e : inV (V.str a) (ns.map V.str) = decide (a ∈ ns) := by
    unfold inV
    rw [List.any_map, Bool.eq_iff_iff, List.any_eq_true, decide_eq_true_eq]
    exact ⟨fun ⟨x, hx, e⟩ => by have e : (x == a) = true := e; rw [← beq_iff_eq.mp e]; exact hx, fun h => ⟨a, h, show (a == a) = true from beq_self_eq_true a⟩⟩
  have e2 : ((seqOf S (encN ns)).bind fun xs => xs.mapM flatD) = some (ns.map V.str) := mapM_flatS ns
  split
  · rename_i h; cases h
  · rw [show flatD (.str a) = some (V.str a) from rfl, e2]
    exact congrArg (fun z => some (D.bl z)) e
theorem v_eqS {a b : Str} {S : Store} {R : D → Prop} (ha : strOkD a = true) (hb : strOkD b = true) (q : R (.bl (decide (a = b)))) : wV (fEq S (.str a) (.str b)) R := by
  refine v_eq (n := 0) (m := 0) ha hb ?_
  rw [beq_dec]
  rw [show decide (D.str a = D.str b) = decide (a = b) from by rw [Bool.eq_iff_iff, decide_eq_true_eq, decide_eq_true_eq]; exact ⟨fun h => by injection h, fun h => by rw [h]⟩]
  exact q
def commonL (a b : List Str) : List Str := a.filter fun x => decide (x ∈ b)
theorem ses_common {rows : List Row} {k j : Nat} {rk rj : Row} (hk : rows[k]? = some rk) (hj : rows[j]? = some rj) (hz : rk.2.2.length ≤ 4000) : Rg c_Sessions_common [SesD rows, .int k, .int j] (encN (commonL rk.2.2 rj.2.2)) := by
  unfold Rg c_Sessions_common
  repeat walk_at "v"
  refine ⟨⟨_, rfl⟩, ?_⟩
  repeat walk_at "v"
  refine wC_pure (ses_names hk) (pure_ses2 _ _) ?_
  repeat walk_at "v"
  refine ⟨by simpa using hz, ?_⟩
  refine wK_map (enc := D.str) (g := D.str) (fun x => decide (x ∈ rj.2.2)) rfl rk.2.2 [] (fun x hx => ?_) ?_
  · refine ⟨_, rfl, ?_⟩
    repeat walk_at "v"
    refine ⟨⟨_, rfl⟩, ?_⟩
    repeat walk_at "v"
    refine wC_pure (ses_names hj) (pure_ses2 _ _) ?_
    refine v_inN ?_
    repeat walk_at "v"
    exact fun _ => e_var (by rfl) ⟨rfl, rfl⟩
  · repeat walk_at "v"
    exact frz_pure (pure_encN _)
/-- rj stands against rk -/
abbrev sLock : Str := Str.ofString "lock"
abbrev sCheck : Str := Str.ofString "check"
abbrev sMerge : Str := Str.ofString "merge"
def standsR (rule : Str) (rj rk : Row) : Bool :=
  if rule = sLock then decide (rk.1 < rj.2.1) else if rule = sCheck then amid rj rk else if rule = sMerge then amid rj rk && decide (0 < (commonL rj.2.2 rk.2.2).length) else false
abbrev cCou : Str := Str.ofString "Course"
/-- the course in the store -/
def couF (rows : List Row) (rule : Str) : List D := [.loc 2, .str rule, SesD rows, .loc 1]
def CS (rows : List Row) (rule : Str) (tk : List Nat) (od : List (Nat × Int)) : Store := [.obj cCou (couF rows rule), .lst (tk.map fun k : Nat => .int (k : Int)), .dic (od.map fun p : Nat × Int => .int (p.1 : Int)) (od.map fun p : Nat × Int => .int p.2)]
theorem stands_ok {rows : List Row} {rule : Str} {tk : List Nat} {od : List (Nat × Int)} {k j : Nat} {rk rj : Row} (hr : strOkD rule = true) (hk : rows[k]? = some rk) (hj : rows[j]? = some rj) (hz : ∀ r ∈ rows, r.2.2.length ≤ 4000) :
    wF c_Course_stands_against [.loc 0, .int j, .int k] (CS rows rule tk od) fun d S => d = .bl (standsR rule rj rk) ∧ S = CS rows rule tk od := by
  have hzj := hz rj (List.mem_of_getElem? hj)
  unfold c_Course_stands_against standsR CS
  repeat walk_at "v"
  refine v_eqS hr (by decide +kernel) ?_
  repeat walk_at "v"
  refine b_d (fun h1 => ?_) fun h1 => ?_
  · rw [if_pos h1]
    repeat walk_at "v"
    refine ⟨⟨_, rfl⟩, ?_⟩
    repeat walk_at "v"
    refine wC_pure (ses_saving hj) (pure_ses2 _ _) ?_
    repeat walk_at "v"
    refine ⟨⟨_, rfl⟩, ?_⟩
    repeat walk_at "v"
    refine wC_pure (ses_opening hk) (pure_ses2 _ _) ?_
    repeat walk_at "v"
    exact rfl
  · rw [if_neg h1]
    repeat walk_at "v"
    refine v_eqS hr (by decide +kernel) ?_
    repeat walk_at "v"
    refine b_d (fun h2 => ?_) fun h2 => ?_
    · rw [if_pos h2]
      repeat walk_at "v"
      refine ⟨⟨_, rfl⟩, ?_⟩
      repeat walk_at "v"
      refine wC_pure (ses_is_between hj hk) (pure_ses3 _ _ _) ?_
      repeat walk_at "v"
      exact rfl
    · rw [if_neg h2]
      repeat walk_at "v"
      refine v_eqS hr (by decide +kernel) ?_
      repeat walk_at "v"
      refine b_d (fun h3 => ?_) fun h3 => ?_
      · rw [if_pos h3]
        repeat walk_at "v"
        refine ⟨⟨_, rfl⟩, ?_⟩
        repeat walk_at "v"
        refine wC_pure (ses_is_between hj hk) (pure_ses3 _ _ _) ?_
        cases ha : amid rj rk with
        | false =>
          repeat walk_at "v"
          exact rfl
        | true =>
          repeat walk_at "v"
          refine ⟨⟨_, rfl⟩, ?_⟩
          repeat walk_at "v"
          refine wC_pure (ses_common hj hk hzj) (pure_ses3 _ _ _) ?_
          refine v_len (xs := (commonL rj.2.2 rk.2.2).map .str) rfl rfl ?_
          repeat walk_at "v"
          refine ⟨?_, rfl⟩
          simp
      · rw [if_neg h3]
        repeat walk_at "v"
        exact rfl
end MM
set_option maxRecDepth 100000
set_option maxHeartbeats 1000000
namespace MM
open PySem PySem.Spec PyProof.Rows L2
local instance tab_Mp4 : Tabl := tab0
local macro_rules | `(tactic| walk_at "w") => `(tactic| with_reducible first
  | refine e_var (by with_unfolding_all rfl) ?_ | refine e_c ?_ | refine e_m2 ?_ | refine e_m1 ?_ | refine e_new ?_ | refine e_ch ?_ | refine e_and ?_ | refine e_or ?_ | refine e_not ?_ | refine e_if ?_ | refine e_tup ?_ | refine e_lst ?_ | refine e_sl ?_ | refine e_app ?_
  | refine e_callR ?_ | refine e_call ?_ | refine e_comp ?_ | refine t_b1 ?_ | refine t_tr ?_ | refine t_an ?_ | refine t_or ?_ | refine t_no ?_ | refine t_true ?_ | refine a_nil ?_ | refine a_cons ?_ | refine a_pick ?_ | refine o_no ?_ | refine o_so ?_
  | refine s_nil ?_ | refine s_retn ?_ | refine s_brk ?_ | refine s_cnt ?_ | refine s_seq ?_ | refine s_set ?_ | refine s_expr ?_ | refine s_ret ?_ | refine s_if ?_ | refine s_asg ?_ | refine s_par ?_ | refine s_sub ?_ | refine f_fn ?_
  | refine n_then ?_ | refine n_thenr ?_ | refine n_thenb ?_ | refine n_thenc ?_ | refine n_endr ?_ | refine n_endn ?_ | refine n_turn ?_ | refine n_turnc ?_ | refine n_turnb ?_ | refine n_turnr ?_ | refine i_seq ?_ | refine i_zip ?_ | refine i_enm ?_ | refine i_rg1 ?_ | refine i_rg2 ?_
  | refine b_t ?_ | refine b_f ?_ | refine v_addI ?_ | refine v_sub ?_ | refine v_some ?_
  | refine v_mod (by first | assumption | decide | omega) ?_
  | refine v_div (by first | assumption | decide | omega) ?_
  | refine v_ix (by with_unfolding_all rfl) (by with_unfolding_all rfl) (by with_unfolding_all rfl) ?_
  | refine v_tupl (by with_unfolding_all rfl) ?_ | refine v_list (by with_unfolding_all rfl) ?_ | refine v_len (by with_unfolding_all rfl) (by with_unfolding_all rfl) ?_
  | refine v_mul (by first | assumption | exact okM_l (by decide) (by decide) | exact okM_r (by decide) (by decide) | exact okM_l (by omega) (by omega) | exact okM_r (by omega) (by omega)) ?_
  | refine v_eqI ?_ | refine v_neI ?_ | refine v_mk (by with_unfolding_all rfl) ?_
  | refine Exists.intro _ (And.intro (by with_unfolding_all rfl) ?_)
  | refine And.intro (by first | assumption | (with_unfolding_all exact Nat.le_of_ble_eq_true rfl) | (with_unfolding_all decide) | (with_unfolding_all rfl)) ?_
  | refine Exists.intro _ (Exists.intro _ (Exists.intro _ (And.intro (by with_unfolding_all rfl) (And.intro (by with_unfolding_all rfl) (And.intro (by with_unfolding_all rfl) ?_)))))
  | refine Exists.intro _ (Exists.intro _ (Exists.intro _ (Exists.intro _ (And.intro (by with_unfolding_all rfl) (And.intro (by with_unfolding_all rfl) (And.intro (by with_unfolding_all rfl) (And.intro (by with_unfolding_all rfl) ?_)))))))
  | refine b_eq (z := true) (by with_unfolding_all rfl) ?_ | refine b_eq (z := false) (by with_unfolding_all rfl) ?_)
local macro_rules | `(tactic| walk_at "v") => `(tactic| with_reducible first
  | walk_at "w" | refine e_recv ?_ | refine e_makeR ?_ | refine s_attr ?_ | refine e_rgL1 ?_ | refine e_callN ?_)
def standsAt (rows : List Row) (rule : Str) (j k : Nat) : Bool := match rows[j]?, rows[k]? with
  | some rj, some rk => standsR rule rj rk
  | _, _ => false
def barsL (rows : List Row) (rule : Str) (tk : List Nat) (k : Nat) : List Nat := tk.filter fun j => standsAt rows rule j k
def minB (bars : List Nat) : Int := (minI (bars.map fun j : Nat => (j : Int))).getD 0
/-- what is taken, what is kept out and why -/
abbrev CoS := List Nat × List (Nat × Int)
def comeL (rows : List Row) (rule : Str) (s : CoS) (k : Nat) : CoS := if (barsL rows rule s.1 k).isEmpty = true then (s.1 ++ [k], s.2) else (s.1, s.2 ++ [(k, minB (barsL rows rule s.1 k))])
theorem hasV_no {k : Nat} : ∀ {od : List (Nat × Int)}, (∀ p ∈ od, p.1 ≠ k) → hasV (.int (k : Int)) (od.map fun p : Nat × Int => .int (p.1 : Int)) = false
  | [], _ => rfl
  | p :: od, h => by
    have h1 := h p (by simp)
    unfold hasV
    rw [List.map_cons, List.any_cons]
    have e : D.beq (.int (p.1 : Int)) (.int (k : Int)) = false := by
      rw [beq_dec, decide_eq_false_iff_not]
      intro z
      injection z with z
      exact h1 (by exact_mod_cast z)
    rw [e, Bool.false_or]
    exact hasV_no fun q hq => h q (by simp [hq])
theorem mapM_intN : ∀ l : List Nat, (l.map fun j : Nat => D.int (j : Int)).mapM intD = some (l.map fun j : Nat => (j : Int))
  | [] => rfl
  | x :: l => by rw [List.map_cons, List.mapM_cons]; show (intD (.int (x : Int))).bind _ = _; rw [mapM_intN l]; rfl
theorem v_minB {bars : List Nat} {S : Store} {R : D → Prop} (h : bars ≠ []) (q : R (.int (minB bars))) : wV (fMin S (.lst (bars.map fun j : Nat => .int (j : Int)))) R := by
  refine ⟨_, ?_, q⟩
  unfold fMin minB
  show ((bars.map fun j : Nat => D.int (j : Int)).mapM intD).bind _ = _
  rw [mapM_intN]
  cases bars with
  | nil => exact absurd rfl h
  | cons x l => rfl
theorem still_one {S : Store} {xs : List D} {n : Nat} {d : D} (h : S[n]? = some d) : still S ⟨xs, [(n, d)]⟩ = true := by
  unfold still
  simp only [List.all_cons, List.all_nil, Bool.and_true, h]
  exact D.beq_refl d
theorem come_ok {rows : List Row} {rule : Str} {tk : List Nat} {od : List (Nat × Int)} {k : Nat} (hr : strOkD rule = true) (hk : k < rows.length) (ht : ∀ j ∈ tk, j < rows.length) (hz : ∀ r ∈ rows, r.2.2.length ≤ 4000)
    (l1 : tk.length < 4000) (l2 : od.length < 4000) (ho : ∀ p ∈ od, p.1 ≠ k) :
    wF c_Course_come [.loc 0, .int k] (CS rows rule tk od) fun d S => d = .non ∧ S = CS rows rule (comeL rows rule (tk, od) k).1 (comeL rows rule (tk, od) k).2 := by
  unfold c_Course_come
  have ek : rows[k]? = some rows[k] := List.getElem?_eq_getElem hk
  repeat walk_at "v"
  refine ⟨by rw [List.length_map]; exact Nat.le_of_lt l1, ?_⟩
  refine wK_map (enc := fun j : Nat => D.int (j : Int)) (g := fun j : Nat => D.int (j : Int)) (fun j => standsAt rows rule j k) ?_ tk [] (fun j hj => ?_) ?_
  · exact still_one rfl
  · refine ⟨_, rfl, ?_⟩
    have hjl := ht j hj
    have ej : rows[j]? = some rows[j] := List.getElem?_eq_getElem hjl
    repeat walk_at "v"
    refine ⟨⟨couF rows rule, rfl⟩, ?_⟩
    repeat walk_at "v"
    refine (stands_ok hr ek ej hz).mono fun d S ⟨e1, e2⟩ => ?_
    subst e1 e2
    repeat walk_at "v"
    exact ⟨by unfold standsAt; rw [ej, ek], rfl, fun _ => e_var (by rfl) ⟨rfl, rfl⟩⟩
  · rw [List.nil_append]
    show thenS _ _ Fl.nx (List.set _ 2 (some (D.lst ((barsL rows rule tk k).map fun j : Nat => D.int (j : Int))))) _
    unfold comeL
    cases hb : barsL rows rule tk k with
    | nil =>
      rw [show ([] : List Nat).isEmpty = true from rfl]
      repeat walk_at "v"
      refine ⟨by rw [List.length_map]; exact l1, ?_⟩
      repeat walk_at "v"
      unfold CS
      simp
    | cons b bs =>
      rw [show (b :: bs).isEmpty = false from rfl]
      repeat walk_at "v"
      refine b_eq (z := true) (decide_eq_true (by simp)) (b_t ?_)
      refine s_dput ?_
      repeat walk_at "v"
      refine v_minB (List.cons_ne_nil _ _) ?_
      repeat walk_at "v"
      refine ⟨⟨?_, by rw [List.length_map]; exact Nat.le_of_lt l2⟩, ?_⟩
      · cases od <;> rfl
      · repeat walk_at "v"
        unfold CS dPut
        rw [hasV_no ho]
        simp
end MM
set_option maxRecDepth 100000
set_option maxHeartbeats 1000000
namespace MM
open PySem PySem.Spec PyProof.Rows L2
local instance tab_Mp5 : Tabl := tab0
local macro_rules | `(tactic| walk_at "w") => `(tactic| with_reducible first
  | refine e_var (by with_unfolding_all rfl) ?_ | refine e_c ?_ | refine e_m2 ?_ | refine e_m1 ?_ | refine e_new ?_ | refine e_ch ?_ | refine e_and ?_ | refine e_or ?_ | refine e_not ?_ | refine e_if ?_ | refine e_tup ?_ | refine e_lst ?_ | refine e_sl ?_ | refine e_app ?_
  | refine e_callR ?_ | refine e_call ?_ | refine e_comp ?_ | refine t_b1 ?_ | refine t_tr ?_ | refine t_an ?_ | refine t_or ?_ | refine t_no ?_ | refine t_true ?_ | refine a_nil ?_ | refine a_cons ?_ | refine a_pick ?_ | refine o_no ?_ | refine o_so ?_
  | refine s_nil ?_ | refine s_retn ?_ | refine s_brk ?_ | refine s_cnt ?_ | refine s_seq ?_ | refine s_set ?_ | refine s_expr ?_ | refine s_ret ?_ | refine s_if ?_ | refine s_asg ?_ | refine s_par ?_ | refine s_sub ?_ | refine f_fn ?_
  | refine n_then ?_ | refine n_thenr ?_ | refine n_thenb ?_ | refine n_thenc ?_ | refine n_endr ?_ | refine n_endn ?_ | refine n_turn ?_ | refine n_turnc ?_ | refine n_turnb ?_ | refine n_turnr ?_ | refine i_seq ?_ | refine i_zip ?_ | refine i_enm ?_ | refine i_rg1 ?_ | refine i_rg2 ?_
  | refine b_t ?_ | refine b_f ?_ | refine v_addI ?_ | refine v_sub ?_ | refine v_some ?_
  | refine v_mod (by first | assumption | decide | omega) ?_
  | refine v_div (by first | assumption | decide | omega) ?_
  | refine v_ix (by with_unfolding_all rfl) (by with_unfolding_all rfl) (by with_unfolding_all rfl) ?_
  | refine v_tupl (by with_unfolding_all rfl) ?_ | refine v_list (by with_unfolding_all rfl) ?_ | refine v_len (by with_unfolding_all rfl) (by with_unfolding_all rfl) ?_
  | refine v_mul (by first | assumption | exact okM_l (by decide) (by decide) | exact okM_r (by decide) (by decide) | exact okM_l (by omega) (by omega) | exact okM_r (by omega) (by omega)) ?_
  | refine v_eqI ?_ | refine v_neI ?_ | refine v_mk (by with_unfolding_all rfl) ?_
  | refine Exists.intro _ (And.intro (by with_unfolding_all rfl) ?_)
  | refine And.intro (by first | assumption | (with_unfolding_all exact Nat.le_of_ble_eq_true rfl) | (with_unfolding_all decide) | (with_unfolding_all rfl)) ?_
  | refine Exists.intro _ (Exists.intro _ (Exists.intro _ (And.intro (by with_unfolding_all rfl) (And.intro (by with_unfolding_all rfl) (And.intro (by with_unfolding_all rfl) ?_)))))
  | refine Exists.intro _ (Exists.intro _ (Exists.intro _ (Exists.intro _ (And.intro (by with_unfolding_all rfl) (And.intro (by with_unfolding_all rfl) (And.intro (by with_unfolding_all rfl) (And.intro (by with_unfolding_all rfl) ?_)))))))
  | refine b_eq (z := true) (by with_unfolding_all rfl) ?_ | refine b_eq (z := false) (by with_unfolding_all rfl) ?_)
local macro_rules | `(tactic| walk_at "v") => `(tactic| with_reducible first
  | walk_at "w" | refine e_recv ?_ | refine e_makeR ?_ | refine s_attr ?_ | refine e_rgL1 ?_ | refine e_callN ?_)
theorem loopK_map {α : Type} {enc g : α → D} {me : M} {e0 : MEnv} {S : Store} : ∀ (l : List α) (acc : List D), (∀ x ∈ l, wE me (some (enc x) :: e0) S fun y S2 => y = g x ∧ S2 = S) → loopK me e0 (l.map enc) S acc = some (acc ++ l.map g, S)
  | [], acc, _ => by simp [loopK]
  | x :: l, acc, h => by
    obtain ⟨y, S2, h1, e1, e2⟩ := h x (by simp)
    subst e1 e2
    rw [List.map_cons, loopK, h1]
    show loopK me e0 (l.map enc) _ (acc ++ [g x]) = _
    rw [loopK_map l _ fun z hz => h z (by simp [hz])]
    simp
theorem e_sortK {ma me : M} {js : List Nat} {n : Nat} {e : MEnv} {S : Store} {Q : D → Store → Prop} (h : wE ma e S fun x S1 => ∃ xs kds ps, lstOf S1 x = some xs ∧ xs.length ≤ 4000 ∧ loopK me (js.map (slotE e) ++ List.replicate n none) xs S1 [] = some (kds, S1) ∧ kds.mapM (toPy S1 60) = some ps ∧ okSort ps = true ∧ Q (.lst ((isort leP (xs.zip ps)).map (·.1))) S1) :
    wE (mSortK ma me js n) e S Q := by
  obtain ⟨x, S1, h1, xs, kds, ps, h2, h3, h4, h5, h6, q⟩ := h
  refine ⟨_, S1, ?_, q⟩
  unfold mSortK sortKD
  rw [h1]
  show (lstOf S1 x).bind _ = _
  rw [h2]
  show (if xs.length ≤ 4000 then _ else none) = _
  rw [if_pos h3, h4]
  show (kds.mapM (toPy S1 60)).bind _ = _
  rw [h5]
  show (if okSort ps = true then _ else none) = _
  rw [if_pos h6]
def keyP (a b : Int) : PyData := .tuple [.int a, .int b]
theorem okSort_keys {α : Type} (f g : α → Int) (l : List α) : okSort (l.map fun k => keyP (f k) (g k)) = true := by
  unfold okSort
  simp only [Bool.and_eq_true, Bool.or_eq_true, List.all_eq_true, List.mem_map, forall_exists_index, and_imp, forall_apply_eq_imp_iff₂]
  refine ⟨⟨fun a _ b _ => rfl, .inl fun a _ => rfl⟩, fun a _ => ?_⟩
  rfl
theorem mapM_keys {α : Type} (f g : α → Int) (S : Store) : ∀ l : List α, (l.map fun k => D.tup [.int (f k), .int (g k)]).mapM (toPy S 60) = some (l.map fun k => keyP (f k) (g k))
  | [] => rfl
  | x :: l => by rw [List.map_cons, List.mapM_cons, mapM_keys f g S l]; rfl
def opn (rows : List Row) (k : Nat) : Int := match rows[k]? with
  | some r => r.1
  | none => 0
def leK (rows : List Row) (a b : Nat) : Bool := leP (a, keyP (opn rows a) a) (b, keyP (opn rows b) b)
theorem sortK_map {β : Type} {rows : List Row} (enc : Nat → β) (l : List Nat) : (isort leP ((l.map enc).zip (l.map fun k : Nat => keyP (opn rows k) k))).map (·.1) = (isort (leK rows) l).map enc := by
  have e : (l.map enc).zip (l.map fun k : Nat => keyP (opn rows k) k) = l.map fun k => (enc k, keyP (opn rows k) k) := by
    induction l with
    | nil => rfl
    | cons x l ih => simp [ih]
  rw [e, ← isort_map (fun k => (enc k, keyP (opn rows k) k)) (leK rows) leP (fun _ _ => rfl), List.map_map]
  rfl
def lineL (rows : List Row) (rule : Str) (there : List Nat) : List Nat := if rule = sLock then isort (leK rows) there else there
theorem sortI_id {l : List Int} (h : l.Pairwise (· ≤ ·)) : sortI l = l := by
  induction l with
  | nil => rfl
  | cons x l ih =>
    have h1 := List.pairwise_cons.mp h
    show insI x (sortI l) = x :: l
    rw [ih h1.2]
    cases l with
    | nil => rfl
    | cons y l => exact if_pos (h1.1 y (by simp))
theorem v_sortI {l : List Nat} {S : Store} {R : D → Prop} (hl : l.length < 64) (q : R (.lst ((sortI (l.map fun k : Nat => (k : Int))).map .int))) : wV (fSorted S (.lst (l.map fun k : Nat => .int (k : Int)))) R := by
  refine ⟨_, ?_, q⟩
  unfold fSorted
  show (if (l.map fun k : Nat => D.int (k : Int)).length < 64 then (match (l.map fun k : Nat => D.int (k : Int)).mapM intD with | some ns => some (D.lst ((sortI ns).map .int)) | none => _) else none) = _
  rw [if_pos (by rw [List.length_map]; exact hl), mapM_intN]
theorem sortI_up {l : List Nat} (hp : l.Pairwise (· < ·)) : (sortI (l.map fun k : Nat => (k : Int))).map D.int = l.map fun k : Nat => D.int (k : Int) := by
  rw [sortI_id (List.pairwise_map.mpr (hp.imp fun h => by omega)), List.map_map]
  rfl
theorem order_ok {rows : List Row} {rule : Str} {there : List Nat} (hr : strOkD rule = true) (ht : ∀ k ∈ there, k < rows.length) (hp : there.Pairwise (· < ·)) (hl : there.length < 64) :
    wF c_Course_order [.loc 0, .lst (there.map fun k : Nat => .int (k : Int))] (CS rows rule [] []) fun d S => d = .lst ((lineL rows rule there).map fun k : Nat => .int (k : Int)) ∧ S = CS rows rule [] [] := by
  unfold c_Course_order lineL
  repeat walk_at "v"
  refine v_eqS hr (by decide +kernel) ?_
  repeat walk_at "v"
  refine b_d (fun h1 => ?_) fun h1 => ?_
  · rw [if_pos h1]
    repeat walk_at "v"
    refine e_sortK ?_
    repeat walk_at "v"
    refine ⟨_, _, there.map fun k : Nat => keyP (opn rows k) k, rfl, by rw [List.length_map]; omega, loopK_map (g := fun k : Nat => .tup [.int (opn rows k), .int k]) there [] fun k hk => ?_, ?_, okSort_keys _ _ _, ?_⟩
    · have hkl := ht k hk
      have ek : rows[k]? = some rows[k] := List.getElem?_eq_getElem hkl
      repeat walk_at "v"
      refine ⟨⟨[RT rows], rfl⟩, ?_⟩
      repeat walk_at "v"
      refine wC_pure (ses_opening ek) (pure_ses2 _ _) ?_
      repeat walk_at "v"
      unfold opn
      rw [ek]
      exact ⟨rfl, rfl⟩
    · rw [List.nil_append]; exact mapM_keys _ _ _ _
    · rw [sortK_map]
      repeat walk_at "v"
      exact rfl
  · rw [if_neg h1]
    repeat walk_at "v"
    refine v_sortI hl ?_
    rw [sortI_up hp]
    repeat walk_at "v"
    exact rfl
end MM
set_option maxRecDepth 100000
set_option maxHeartbeats 1000000
namespace MM
open PySem PySem.Spec PyProof.Rows L2
local instance tab_Mp6 : Tabl := tab0
local macro_rules | `(tactic| walk_at "w") => `(tactic| with_reducible first
  | refine e_var (by with_unfolding_all rfl) ?_ | refine e_c ?_ | refine e_m2 ?_ | refine e_m1 ?_ | refine e_new ?_ | refine e_ch ?_ | refine e_and ?_ | refine e_or ?_ | refine e_not ?_ | refine e_if ?_ | refine e_tup ?_ | refine e_lst ?_ | refine e_sl ?_ | refine e_app ?_
  | refine e_callR ?_ | refine e_call ?_ | refine e_comp ?_ | refine t_b1 ?_ | refine t_tr ?_ | refine t_an ?_ | refine t_or ?_ | refine t_no ?_ | refine t_true ?_ | refine a_nil ?_ | refine a_cons ?_ | refine a_pick ?_ | refine o_no ?_ | refine o_so ?_
  | refine s_nil ?_ | refine s_retn ?_ | refine s_brk ?_ | refine s_cnt ?_ | refine s_seq ?_ | refine s_set ?_ | refine s_expr ?_ | refine s_ret ?_ | refine s_if ?_ | refine s_asg ?_ | refine s_par ?_ | refine s_sub ?_ | refine f_fn ?_
  | refine n_then ?_ | refine n_thenr ?_ | refine n_thenb ?_ | refine n_thenc ?_ | refine n_endr ?_ | refine n_endn ?_ | refine n_turn ?_ | refine n_turnc ?_ | refine n_turnb ?_ | refine n_turnr ?_ | refine i_seq ?_ | refine i_zip ?_ | refine i_enm ?_ | refine i_rg1 ?_ | refine i_rg2 ?_
  | refine b_t ?_ | refine b_f ?_ | refine v_addI ?_ | refine v_sub ?_ | refine v_some ?_
  | refine v_mod (by first | assumption | decide | omega) ?_
  | refine v_div (by first | assumption | decide | omega) ?_
  | refine v_ix (by with_unfolding_all rfl) (by with_unfolding_all rfl) (by with_unfolding_all rfl) ?_
  | refine v_tupl (by with_unfolding_all rfl) ?_ | refine v_list (by with_unfolding_all rfl) ?_ | refine v_len (by with_unfolding_all rfl) (by with_unfolding_all rfl) ?_
  | refine v_mul (by first | assumption | exact okM_l (by decide) (by decide) | exact okM_r (by decide) (by decide) | exact okM_l (by omega) (by omega) | exact okM_r (by omega) (by omega)) ?_
  | refine v_eqI ?_ | refine v_neI ?_ | refine v_mk (by with_unfolding_all rfl) ?_
  | refine Exists.intro _ (And.intro (by with_unfolding_all rfl) ?_)
  | refine And.intro (by first | assumption | (with_unfolding_all exact Nat.le_of_ble_eq_true rfl) | (with_unfolding_all decide) | (with_unfolding_all rfl)) ?_
  | refine Exists.intro _ (Exists.intro _ (Exists.intro _ (And.intro (by with_unfolding_all rfl) (And.intro (by with_unfolding_all rfl) (And.intro (by with_unfolding_all rfl) ?_)))))
  | refine Exists.intro _ (Exists.intro _ (Exists.intro _ (Exists.intro _ (And.intro (by with_unfolding_all rfl) (And.intro (by with_unfolding_all rfl) (And.intro (by with_unfolding_all rfl) (And.intro (by with_unfolding_all rfl) ?_)))))))
  | refine b_eq (z := true) (by with_unfolding_all rfl) ?_ | refine b_eq (z := false) (by with_unfolding_all rfl) ?_)
local macro_rules | `(tactic| walk_at "v") => `(tactic| with_reducible first
  | walk_at "w" | refine e_recv ?_ | refine e_makeR ?_ | refine s_attr ?_ | refine e_rgL1 ?_ | refine e_callN ?_)
def runL (rows : List Row) (rule : Str) (line : List Nat) : CoS := line.foldl (comeL rows rule) ([], [])
theorem runL_snoc {rows : List Row} {rule : Str} {a : List Nat} {k : Nat} : runL rows rule (a ++ [k]) = comeL rows rule (runL rows rule a) k := by
  unfold runL
  rw [List.foldl_append]
  rfl
theorem come_inv {rows : List Row} {rule : Str} {s : CoS} {a : List Nat} {k : Nat} (h : (∀ j ∈ s.1, j ∈ a) ∧ (∀ p ∈ s.2, p.1 ∈ a) ∧ s.1.length ≤ a.length ∧ s.2.length ≤ a.length) :
    (∀ j ∈ (comeL rows rule s k).1, j ∈ a ++ [k]) ∧ (∀ p ∈ (comeL rows rule s k).2, p.1 ∈ a ++ [k]) ∧ (comeL rows rule s k).1.length ≤ (a ++ [k]).length ∧ (comeL rows rule s k).2.length ≤ (a ++ [k]).length := by
  obtain ⟨h1, h2, h3, h4⟩ := h
  unfold comeL
  split
  · refine ⟨fun j hj => ?_, fun p hp => List.mem_append_left _ (h2 p hp), by simp; omega, by simp; omega⟩
    rcases List.mem_append.mp hj with z | z
    · exact List.mem_append_left _ (h1 j z)
    · exact List.mem_append_right _ z
  · refine ⟨fun j hj => List.mem_append_left _ (h1 j hj), fun p hp => ?_, by simp; omega, by simp; omega⟩
    rcases List.mem_append.mp hp with z | z
    · exact List.mem_append_left _ (h2 p z)
    · rw [List.mem_singleton.mp z]; exact List.mem_append_right _ (by simp)
theorem run_inv {rows : List Row} {rule : Str} (a : List Nat) : (∀ j ∈ (runL rows rule a).1, j ∈ a) ∧ (∀ p ∈ (runL rows rule a).2, p.1 ∈ a) ∧ (runL rows rule a).1.length ≤ a.length ∧ (runL rows rule a).2.length ≤ a.length := by
  suffices h : ∀ (b a : List Nat) (s : CoS), ((∀ j ∈ s.1, j ∈ a) ∧ (∀ p ∈ s.2, p.1 ∈ a) ∧ s.1.length ≤ a.length ∧ s.2.length ≤ a.length) → let t := b.foldl (comeL rows rule) s; (∀ j ∈ t.1, j ∈ a ++ b) ∧ (∀ p ∈ t.2, p.1 ∈ a ++ b) ∧ t.1.length ≤ (a ++ b).length ∧ t.2.length ≤ (a ++ b).length by
    have := h a [] ([], []) (by simp)
    simpa [runL] using this
  intro b
  induction b with
  | nil => intro a s h; simpa using h
  | cons k b ih =>
    intro a s h
    have := ih (a ++ [k]) _ (come_inv (rows := rows) (rule := rule) (k := k) h)
    simpa using this
theorem isort_perm {rows : List Row} (l : List Nat) : (isort (leK rows) l).Perm l := by
  have h := sortK_map (rows := rows) (fun k => k) l
  have e : isort (leK rows) l = (isort leP ((l.map fun k => k).zip (l.map fun k : Nat => keyP (opn rows k) k))).map (·.1) := by rw [h]; simp
  rw [e, isort_eq leP_total]
  have p := (List.mergeSort_perm ((l.map fun k => k).zip (l.map fun k : Nat => keyP (opn rows k) k)) leP).map (·.1)
  rw [List.map_fst_zip (by simp)] at p
  simpa using p
theorem line_perm {rows : List Row} {rule : Str} {there : List Nat} : (lineL rows rule there).Perm there := by
  unfold lineL
  split
  · exact isort_perm there
  · exact .refl _
def couS (rows : List Row) (rule : Str) (there : List Nat) : CoS := runL rows rule (lineL rows rule there)
def CouD (rows : List Row) (rule : Str) (s : CoS) : D := .obj cCou [.dic (s.2.map fun p : Nat × Int => .int (p.1 : Int)) (s.2.map fun p : Nat × Int => .int p.2), .str rule, SesD rows, .lst (s.1.map fun k : Nat => .int (k : Int))]
theorem pure_ints {α : Type} (f : α → Int) (l : List α) : D.pures (l.map fun k => D.int (f k)) = true := pures_of fun x hx => by
  obtain ⟨k, _, rfl⟩ := List.mem_map.mp hx
  rfl
theorem pure_cou (rows : List Row) (rule : Str) (s : CoS) : D.pure (CouD rows rule s) = true := by
  unfold CouD SesD RT
  simp [D.pure, D.pureo, pure_ints, pure_rows]
theorem frz_cs {rows : List Row} {rule : Str} (s : CoS) : ((couF rows rule).mapM (frzD (CS rows rule s.1 s.2) 29)).map (D.obj cCou) = some (CouD rows rule s) := by
  have f2 : frzD (CS rows rule s.1 s.2) 29 (.loc 2) = some (.dic (s.2.map fun p : Nat × Int => .int (p.1 : Int)) (s.2.map fun p : Nat × Int => .int p.2)) := by
    unfold frzD
    rw [if_neg (by simp [D.pure])]
    show ((s.2.map fun p : Nat × Int => D.int p.2).mapM (frzD _ 28)).map (D.dic _) = _
    rw [frzM_pure (pure_ints _ _)]
    rfl
  have f1 : frzD (CS rows rule s.1 s.2) 29 (.loc 1) = some (.lst (s.1.map fun k : Nat => .int (k : Int))) := frz_loc rfl (pure_ints _ _)
  have f3 : frzD (CS rows rule s.1 s.2) 29 (.str rule) = some (.str rule) := frz_pure rfl
  have f4 : frzD (CS rows rule s.1 s.2) 29 (SesD rows) = some (SesD rows) := frz_pure (pure_ses rows)
  unfold couF
  rw [List.mapM_cons, f2, List.mapM_cons, f3, List.mapM_cons, f4, List.mapM_cons, f1]
  rfl
theorem init_ok {rows : List Row} {rule : Str} {there : List Nat} (hr : strOkD rule = true) (ht : ∀ k ∈ there, k < rows.length) (hp : there.Pairwise (· < ·)) (hl : there.length < 64) (hz : ∀ r ∈ rows, r.2.2.length ≤ 4000) :
    wF c_Course_init [.loc 0, SesD rows, .str rule, .lst (there.map fun k : Nat => .int (k : Int))] [.obj cCou []] fun d S => d = .non ∧ ∃ r, frzD S 30 (.loc 0) = some r ∧ r = CouD rows rule (couS rows rule there) := by
  have P := line_perm (rows := rows) (rule := rule) (there := there)
  have nd : (lineL rows rule there).Nodup := P.nodup_iff.mpr (hp.imp fun h => Nat.ne_of_lt h)
  unfold c_Course_init
  repeat walk_at "v"
  refine ⟨0, [], rfl, rfl, ?_⟩
  repeat walk_at "v"
  refine ⟨0, _, rfl, rfl, ?_⟩
  repeat walk_at "v"
  refine ⟨0, _, rfl, rfl, ?_⟩
  repeat walk_at "v"
  refine ⟨0, _, rfl, rfl, ?_⟩
  refine n_then ?_
  show wS _ (startE 5 [D.loc 0, SesD rows, D.str rule, D.lst (there.map fun k : Nat => .int (k : Int))]) (CS rows rule [] []) _
  refine s_for ?_
  repeat walk_at "v"
  refine ⟨⟨couF rows rule, rfl⟩, ?_⟩
  repeat walk_at "v"
  refine (order_ok hr ht hp hl).mono fun d S ⟨e1, e2⟩ => ?_
  subst e1 e2
  repeat walk_at "v"
  refine wL_inv (enc := fun k : Nat => D.int (k : Int)) (fun a b e S => a ++ b = lineL rows rule there ∧ S = CS rows rule (runL rows rule a).1 (runL rows rule a).2 ∧ ∃ z, e = [some (.loc 0), some (SesD rows), some (.str rule), some (.lst (there.map fun k : Nat => .int (k : Int))), z]) (fun _ _ _ _ _ => rfl) ?_ (lineL rows rule there) [] _ _ ⟨rfl, rfl, none, rfl⟩ ?_
  · rintro a k b e S ⟨eab, rfl, z, rfl⟩
    refine ⟨_, rfl, ?_⟩
    have hkm : k ∈ lineL rows rule there := by rw [← eab]; simp
    have hk : k < rows.length := ht k (P.mem_iff.mp hkm)
    have inv := run_inv (rows := rows) (rule := rule) a
    have nda : k ∉ a := fun z => by
      rw [← eab] at nd
      exact (List.nodup_append.mp nd).2.2 k z k (by simp) rfl
    have la : a.length < 64 := by
      have := P.length_eq
      rw [← eab] at this
      simp at this
      omega
    repeat walk_at "v"
    refine ⟨⟨couF rows rule, rfl⟩, ?_⟩
    repeat walk_at "v"
    refine (come_ok (od := (runL rows rule a).2) hr hk (fun j hj => ?_) hz (by omega) (by omega) fun p hp => fun z => nda (z ▸ inv.2.1 p hp)).mono fun d S ⟨e1, e2⟩ => ?_
    · have := inv.1 j hj
      exact ht j (P.mem_iff.mp (by rw [← eab]; exact List.mem_append_left _ this))
    · subst e1 e2
      repeat walk_at "v"
      refine ⟨by simp [eab], ?_, _, rfl⟩
      rw [runL_snoc]
  · rintro e S ⟨_, rfl, z, rfl⟩
    repeat walk_at "v"
    refine ⟨_, ?_, rfl⟩
    unfold frzD
    rw [if_neg (by simp [D.pure])]
    show ((couF rows rule).mapM (frzD _ 29)).map (D.obj cCou) = _
    rw [List.nil_append]
    exact frz_cs _
end MM
set_option maxRecDepth 100000
set_option maxHeartbeats 1000000
namespace MM
open PySem PySem.Spec PyProof.Rows L2
local instance tab_Mp7 : Tabl := tab0
local macro_rules | `(tactic| walk_at "w") => `(tactic| with_reducible first
  | refine e_var (by with_unfolding_all rfl) ?_ | refine e_c ?_ | refine e_m2 ?_ | refine e_m1 ?_ | refine e_new ?_ | refine e_ch ?_ | refine e_and ?_ | refine e_or ?_ | refine e_not ?_ | refine e_if ?_ | refine e_tup ?_ | refine e_lst ?_ | refine e_sl ?_ | refine e_app ?_
  | refine e_callR ?_ | refine e_call ?_ | refine e_comp ?_ | refine t_b1 ?_ | refine t_tr ?_ | refine t_an ?_ | refine t_or ?_ | refine t_no ?_ | refine t_true ?_ | refine a_nil ?_ | refine a_cons ?_ | refine a_pick ?_ | refine o_no ?_ | refine o_so ?_
  | refine s_nil ?_ | refine s_retn ?_ | refine s_brk ?_ | refine s_cnt ?_ | refine s_seq ?_ | refine s_set ?_ | refine s_expr ?_ | refine s_ret ?_ | refine s_if ?_ | refine s_asg ?_ | refine s_par ?_ | refine s_sub ?_ | refine f_fn ?_
  | refine n_then ?_ | refine n_thenr ?_ | refine n_thenb ?_ | refine n_thenc ?_ | refine n_endr ?_ | refine n_endn ?_ | refine n_turn ?_ | refine n_turnc ?_ | refine n_turnb ?_ | refine n_turnr ?_ | refine i_seq ?_ | refine i_zip ?_ | refine i_enm ?_ | refine i_rg1 ?_ | refine i_rg2 ?_
  | refine b_t ?_ | refine b_f ?_ | refine v_addI ?_ | refine v_sub ?_ | refine v_some ?_
  | refine v_mod (by first | assumption | decide | omega) ?_
  | refine v_div (by first | assumption | decide | omega) ?_
  | refine v_ix (by with_unfolding_all rfl) (by with_unfolding_all rfl) (by with_unfolding_all rfl) ?_
  | refine v_tupl (by with_unfolding_all rfl) ?_ | refine v_list (by with_unfolding_all rfl) ?_ | refine v_len (by with_unfolding_all rfl) (by with_unfolding_all rfl) ?_
  | refine v_mul (by first | assumption | exact okM_l (by decide) (by decide) | exact okM_r (by decide) (by decide) | exact okM_l (by omega) (by omega) | exact okM_r (by omega) (by omega)) ?_
  | refine v_eqI ?_ | refine v_neI ?_ | refine v_mk (by with_unfolding_all rfl) ?_
  | refine Exists.intro _ (And.intro (by with_unfolding_all rfl) ?_)
  | refine And.intro (by first | assumption | (with_unfolding_all exact Nat.le_of_ble_eq_true rfl) | (with_unfolding_all decide) | (with_unfolding_all rfl)) ?_
  | refine Exists.intro _ (Exists.intro _ (Exists.intro _ (And.intro (by with_unfolding_all rfl) (And.intro (by with_unfolding_all rfl) (And.intro (by with_unfolding_all rfl) ?_)))))
  | refine Exists.intro _ (Exists.intro _ (Exists.intro _ (Exists.intro _ (And.intro (by with_unfolding_all rfl) (And.intro (by with_unfolding_all rfl) (And.intro (by with_unfolding_all rfl) (And.intro (by with_unfolding_all rfl) ?_)))))))
  | refine b_eq (z := true) (by with_unfolding_all rfl) ?_ | refine b_eq (z := false) (by with_unfolding_all rfl) ?_)
local macro_rules | `(tactic| walk_at "v") => `(tactic| with_reducible first
  | walk_at "w" | refine e_recv ?_ | refine e_makeR ?_ | refine s_attr ?_ | refine e_rgL1 ?_ | refine e_callN ?_)
def upto (n : Nat) : List Nat := List.range n
theorem rng_upto (n : Nat) : rngD 0 ((n : Int)).toNat = (upto n).map fun k : Nat => .int (k : Int) := by
  unfold rngD upto
  simp
theorem ses_numbers {rows : List Row} (hl : rows.length < 64) : Rg c_Sessions_numbers [SesD rows] (.lst ((upto rows.length).map fun k : Nat => .int (k : Int))) := by
  unfold Rg c_Sessions_numbers
  repeat walk_at "v"
  rw [List.length_map]
  refine ⟨by omega, ?_⟩
  rw [rng_upto]
  repeat walk_at "v"
  exact frz_pure (by simp [D.pure, pure_ints])
/-- the course of all -/
def allS (rows : List Row) (rule : Str) : CoS := couS rows rule (upto rows.length)
structure RwOk (rows : List Row) : Prop where
  len : rows.length < 64
  nm : ∀ r ∈ rows, r.2.2.length ≤ 4000
theorem course_of_ok {d : D} {rows : List Row} {rule : Str} (hd : D.ok 13 d = true) (t : tupD d = RT rows) (hr : strOkD rule = true) (R : RwOk rows) : Rg c_course_of [d, .str rule] (CouD rows rule (allS rows rule)) := by
  unfold Rg c_course_of
  repeat walk_at "v"
  refine ⟨⟨rfl, pures1 (ok_pure hd)⟩, ?_⟩
  refine (ses_init hd t).mono fun x S ⟨e, r, hf, er⟩ => ?_
  subst er
  refine ⟨e, _, hf, ?_⟩
  repeat walk_at "v"
  refine ⟨⟨_, rfl⟩, ?_⟩
  repeat walk_at "v"
  refine wC_pure (ses_numbers R.len) (pures1 (pure_ses rows)) ?_
  repeat walk_at "v"
  refine ⟨⟨rfl, by simp [D.pures, D.pure, pure_ses, pure_ints]⟩, ?_⟩
  refine (init_ok hr (fun k hk => by simpa [upto] using hk) (by unfold upto; exact List.pairwise_lt_range) (by simpa [upto] using R.len) R.nm).mono fun x S ⟨e, r, hf, er⟩ => ?_
  subst er
  refine ⟨e, _, hf, ?_⟩
  repeat walk_at "v"
  exact frz_pure (pure_cou _ _ _)
def letD (s : CoS) : D := .tup ((sortI (s.1.map fun k : Nat => (k : Int))).map .int)
theorem let_by_ok {rows : List Row} {rule : Str} {s : CoS} (hl : s.1.length < 64) : Rg c_Course_let_by [CouD rows rule s] (letD s) := by
  unfold Rg c_Course_let_by
  repeat walk_at "v"
  refine v_sortI hl ?_
  repeat walk_at "v"
  exact frz_pure (by simp [D.pure, pures_of])
theorem allS_len {rows : List Row} {rule : Str} : (allS rows rule).1.length ≤ rows.length ∧ (allS rows rule).2.length ≤ rows.length := by
  have h := run_inv (rows := rows) (rule := rule) (lineL rows rule (upto rows.length))
  have e : (lineL rows rule (upto rows.length)).length = rows.length := by rw [line_perm.length_eq]; simp [upto]
  rw [e] at h
  exact ⟨h.2.2.1, h.2.2.2⟩
theorem accepted_ok {d : D} {rows : List Row} {rule : Str} (hd : D.ok 13 d = true) (t : tupD d = RT rows) (hr : strOkD rule = true) (R : RwOk rows) : Rg c_accepted [d, .str rule] (letD (allS rows rule)) := by
  unfold Rg c_accepted
  repeat walk_at "v"
  refine wC_pure (course_of_ok hd t hr R) (by simp [D.pures, ok_pure hd, D.pure]) ?_
  refine ⟨⟨_, rfl⟩, ?_⟩
  repeat walk_at "v"
  refine wC_pure (let_by_ok (Nat.lt_of_le_of_lt allS_len.1 R.len)) (pures1 (pure_cou _ _ _)) ?_
  repeat walk_at "v"
  exact frz_pure (by simp [letD, D.pure, pures_of])
end MM
set_option maxRecDepth 100000
set_option maxHeartbeats 1000000
namespace MM
open PySem PySem.Spec PyProof.Rows L2
local instance tab_Mp8 : Tabl := tab0
local macro_rules | `(tactic| walk_at "w") => `(tactic| with_reducible first
  | refine e_var (by with_unfolding_all rfl) ?_ | refine e_c ?_ | refine e_m2 ?_ | refine e_m1 ?_ | refine e_new ?_ | refine e_ch ?_ | refine e_and ?_ | refine e_or ?_ | refine e_not ?_ | refine e_if ?_ | refine e_tup ?_ | refine e_lst ?_ | refine e_sl ?_ | refine e_app ?_
  | refine e_callR ?_ | refine e_call ?_ | refine e_comp ?_ | refine t_b1 ?_ | refine t_tr ?_ | refine t_an ?_ | refine t_or ?_ | refine t_no ?_ | refine t_true ?_ | refine a_nil ?_ | refine a_cons ?_ | refine a_pick ?_ | refine o_no ?_ | refine o_so ?_
  | refine s_nil ?_ | refine s_retn ?_ | refine s_brk ?_ | refine s_cnt ?_ | refine s_seq ?_ | refine s_set ?_ | refine s_expr ?_ | refine s_ret ?_ | refine s_if ?_ | refine s_asg ?_ | refine s_par ?_ | refine s_sub ?_ | refine f_fn ?_
  | refine n_then ?_ | refine n_thenr ?_ | refine n_thenb ?_ | refine n_thenc ?_ | refine n_endr ?_ | refine n_endn ?_ | refine n_turn ?_ | refine n_turnc ?_ | refine n_turnb ?_ | refine n_turnr ?_ | refine i_seq ?_ | refine i_zip ?_ | refine i_enm ?_ | refine i_rg1 ?_ | refine i_rg2 ?_
  | refine b_t ?_ | refine b_f ?_ | refine v_addI ?_ | refine v_sub ?_ | refine v_some ?_
  | refine v_mod (by first | assumption | decide | omega) ?_
  | refine v_div (by first | assumption | decide | omega) ?_
  | refine v_ix (by with_unfolding_all rfl) (by with_unfolding_all rfl) (by with_unfolding_all rfl) ?_
  | refine v_tupl (by with_unfolding_all rfl) ?_ | refine v_list (by with_unfolding_all rfl) ?_ | refine v_len (by with_unfolding_all rfl) (by with_unfolding_all rfl) ?_
  | refine v_mul (by first | assumption | exact okM_l (by decide) (by decide) | exact okM_r (by decide) (by decide) | exact okM_l (by omega) (by omega) | exact okM_r (by omega) (by omega)) ?_
  | refine v_eqI ?_ | refine v_neI ?_ | refine v_mk (by with_unfolding_all rfl) ?_
  | refine Exists.intro _ (And.intro (by with_unfolding_all rfl) ?_)
  | refine And.intro (by first | assumption | (with_unfolding_all exact Nat.le_of_ble_eq_true rfl) | (with_unfolding_all decide) | (with_unfolding_all rfl)) ?_
  | refine Exists.intro _ (Exists.intro _ (Exists.intro _ (And.intro (by with_unfolding_all rfl) (And.intro (by with_unfolding_all rfl) (And.intro (by with_unfolding_all rfl) ?_)))))
  | refine Exists.intro _ (Exists.intro _ (Exists.intro _ (Exists.intro _ (And.intro (by with_unfolding_all rfl) (And.intro (by with_unfolding_all rfl) (And.intro (by with_unfolding_all rfl) (And.intro (by with_unfolding_all rfl) ?_)))))))
  | refine b_eq (z := true) (by with_unfolding_all rfl) ?_ | refine b_eq (z := false) (by with_unfolding_all rfl) ?_)
local macro_rules | `(tactic| walk_at "v") => `(tactic| with_reducible first
  | walk_at "w" | refine e_recv ?_ | refine e_makeR ?_ | refine s_attr ?_ | refine e_rgL1 ?_ | refine e_callN ?_)
def lookI (k : Int) : List (Nat × Int) → Int
  | [] => 0
  | p :: od => if (p.1 : Int) = k then p.2 else lookI k od
theorem getV_look {k : Int} : ∀ {od : List (Nat × Int)}, (∃ p ∈ od, (p.1 : Int) = k) → getV (.int k) (od.map fun p : Nat × Int => .int (p.1 : Int)) (od.map fun p : Nat × Int => .int p.2) = some (.int (lookI k od))
  | [], h => by obtain ⟨p, hp, _⟩ := h; cases hp
  | p :: od, h => by
    show (if D.beq (.int (p.1 : Int)) (.int k) = true then some (D.int p.2) else getV (.int k) (od.map fun p : Nat × Int => .int (p.1 : Int)) (od.map fun p : Nat × Int => .int p.2)) = _
    unfold lookI
    rw [beq_dec]
    by_cases e : (p.1 : Int) = k
    · rw [if_pos e, if_pos (decide_eq_true (by rw [e]))]
    · rw [if_neg e, if_neg (by rw [decide_eq_true_eq]; exact fun z => e (by injection z))]
      obtain ⟨q, hq, h2⟩ := h
      rcases List.mem_cons.mp hq with z | z
      · exact absurd (z ▸ h2) e
      · exact getV_look ⟨q, z, h2⟩
theorem isK_od : ∀ od : List (Nat × Int), isK (od.map fun p : Nat × Int => D.int (p.1 : Int)) = true
  | [] => rfl
  | _ :: _ => rfl
theorem dicOf_od {S : Store} {x : D} {od : List (Nat × Int)} {vs : List D} (h : deref S x = some (.dic (od.map fun p : Nat × Int => .int (p.1 : Int)) vs)) : dicOf S x = some (od.map fun p : Nat × Int => .int (p.1 : Int), vs) := by
  unfold dicOf
  rw [h]
  exact if_pos (isK_od od)
def keysI (od : List (Nat × Int)) : List Int := sortI (od.map fun p : Nat × Int => (p.1 : Int))
theorem mem_keysI {k : Int} {od : List (Nat × Int)} (h : k ∈ keysI od) : ∃ p ∈ od, (p.1 : Int) = k := by
  unfold keysI at h
  have := (sortI_perm _).mem_iff.mp h
  simpa using this
theorem v_dsort {S : Store} {x : D} {od : List (Nat × Int)} {vs : List D} {R : D → Prop} (h : deref S x = some (.dic (od.map fun p : Nat × Int => .int (p.1 : Int)) vs)) (hl : od.length < 64) (q : R (.lst ((keysI od).map .int))) : wV (fDSorted S x) R := by
  refine ⟨_, ?_, q⟩
  unfold fDSorted
  rw [dicOf_od h]
  show (if (od.map fun p : Nat × Int => D.int (p.1 : Int)).length < 64 then (match (od.map fun p : Nat × Int => D.int (p.1 : Int)).mapM intD with | some ns => some (D.lst ((sortI ns).map .int)) | none => _) else none) = _
  have e : (od.map fun p : Nat × Int => D.int (p.1 : Int)).mapM intD = some (od.map fun p : Nat × Int => (p.1 : Int)) := by
    have := mapM_intN (od.map (·.1))
    simpa [List.map_map, Function.comp_def] using this
  rw [if_pos (by rw [List.length_map]; exact hl), e]
  rfl
theorem v_dget {S : Store} {x : D} {od : List (Nat × Int)} {k : Int} {R : D → Prop} (h : deref S x = some (.dic (od.map fun p : Nat × Int => .int (p.1 : Int)) (od.map fun p : Nat × Int => .int p.2))) (hk : ∃ p ∈ od, (p.1 : Int) = k) (q : R (.int (lookI k od))) : wV (fDGet S x (.int k)) R := by
  refine ⟨_, ?_, q⟩
  unfold fDGet
  rw [dicOf_od h]
  exact getV_look hk
def refL (od : List (Nat × Int)) : List D := (keysI od).map fun k => .tup [.int k, .int (lookI k od)]
theorem pure_refL (od : List (Nat × Int)) : D.pures (refL od) = true := pures_of fun x hx => by
  obtain ⟨k, _, rfl⟩ := List.mem_map.mp hx
  rfl
theorem keysI_len (od : List (Nat × Int)) : (keysI od).length = od.length := by
  unfold keysI
  rw [(sortI_perm _).length_eq, List.length_map]
theorem kept_out_ok {rows : List Row} {rule : Str} {s : CoS} (hl : s.2.length < 64) : wF c_Course_kept_out [CouD rows rule s] [] fun x S => x = .loc 0 ∧ S = [.lst (refL s.2)] := by
  unfold c_Course_kept_out
  repeat walk_at "v"
  refine v_dsort rfl hl ?_
  repeat walk_at "v"
  refine ⟨by rw [List.length_map, keysI_len]; omega, ?_⟩
  refine wK_map0 (enc := D.int) (g := fun k => .tup [.int k, .int (lookI k s.2)]) rfl (keysI s.2) [] (fun k hk => ?_) ?_
  · refine ⟨_, rfl, ?_⟩
    repeat walk_at "v"
    refine v_dget rfl (mem_keysI hk) ?_
    repeat walk_at "v"
    exact rfl
  · repeat walk_at "v"
    exact rfl
theorem rn_of {F : Fn} {ds : List D} {xs : List D} (hp : D.pures xs = true) (h : wF F ds [] fun x S => x = .loc 0 ∧ S = [.lst xs]) : Rn F ds (.lst xs) := by
  refine h.mono fun x S ⟨e1, e2⟩ => ⟨0, e1, ?_⟩
  subst e2
  show (xs.mapM (frzD _ 29)).map D.lst = _
  rw [frzM_pure hp]
  rfl
theorem rg_of_new {F : Fn} {ds : List D} {xs : List D} (hp : D.pures xs = true) (h : wF F ds [] fun x S => x = .loc 0 ∧ S = [.lst xs]) : Rg F ds (.lst xs) := by
  refine h.mono fun x S ⟨e1, e2⟩ => ?_
  subst e1 e2
  exact frz_loc rfl hp
theorem refused_ok {d : D} {rows : List Row} {rule : Str} (hd : D.ok 13 d = true) (t : tupD d = RT rows) (hr : strOkD rule = true) (R : RwOk rows) : wF c_refused [d, .str rule] [] fun x S => x = .loc 0 ∧ S = [.lst (refL (allS rows rule).2)] := by
  unfold c_refused
  repeat walk_at "v"
  refine wC_pure (course_of_ok hd t hr R) (by simp [D.pures, ok_pure hd, D.pure]) ?_
  refine ⟨⟨_, rfl⟩, ?_⟩
  repeat walk_at "v"
  refine ⟨⟨rfl, pures1 (pure_cou _ _ _)⟩, _, rn_of (pure_refL _) (kept_out_ok (Nat.lt_of_le_of_lt allS_len.2 R.len)), ?_⟩
  repeat walk_at "v"
  exact rfl
end MM
set_option maxRecDepth 100000
set_option maxHeartbeats 1000000
namespace MM
open PySem PySem.Spec PyProof.Rows L2
local instance tab_Mp9 : Tabl := tab0
local macro_rules | `(tactic| walk_at "w") => `(tactic| with_reducible first
  | refine e_var (by with_unfolding_all rfl) ?_ | refine e_c ?_ | refine e_m2 ?_ | refine e_m1 ?_ | refine e_new ?_ | refine e_ch ?_ | refine e_and ?_ | refine e_or ?_ | refine e_not ?_ | refine e_if ?_ | refine e_tup ?_ | refine e_lst ?_ | refine e_sl ?_ | refine e_app ?_
  | refine e_callR ?_ | refine e_call ?_ | refine e_comp ?_ | refine t_b1 ?_ | refine t_tr ?_ | refine t_an ?_ | refine t_or ?_ | refine t_no ?_ | refine t_true ?_ | refine a_nil ?_ | refine a_cons ?_ | refine a_pick ?_ | refine o_no ?_ | refine o_so ?_
  | refine s_nil ?_ | refine s_retn ?_ | refine s_brk ?_ | refine s_cnt ?_ | refine s_seq ?_ | refine s_set ?_ | refine s_expr ?_ | refine s_ret ?_ | refine s_if ?_ | refine s_asg ?_ | refine s_par ?_ | refine s_sub ?_ | refine f_fn ?_
  | refine n_then ?_ | refine n_thenr ?_ | refine n_thenb ?_ | refine n_thenc ?_ | refine n_endr ?_ | refine n_endn ?_ | refine n_turn ?_ | refine n_turnc ?_ | refine n_turnb ?_ | refine n_turnr ?_ | refine i_seq ?_ | refine i_zip ?_ | refine i_enm ?_ | refine i_rg1 ?_ | refine i_rg2 ?_
  | refine b_t ?_ | refine b_f ?_ | refine v_addI ?_ | refine v_sub ?_ | refine v_some ?_
  | refine v_mod (by first | assumption | decide | omega) ?_
  | refine v_div (by first | assumption | decide | omega) ?_
  | refine v_ix (by with_unfolding_all rfl) (by with_unfolding_all rfl) (by with_unfolding_all rfl) ?_
  | refine v_tupl (by with_unfolding_all rfl) ?_ | refine v_list (by with_unfolding_all rfl) ?_ | refine v_len (by with_unfolding_all rfl) (by with_unfolding_all rfl) ?_
  | refine v_mul (by first | assumption | exact okM_l (by decide) (by decide) | exact okM_r (by decide) (by decide) | exact okM_l (by omega) (by omega) | exact okM_r (by omega) (by omega)) ?_
  | refine v_eqI ?_ | refine v_neI ?_ | refine v_mk (by with_unfolding_all rfl) ?_
  | refine Exists.intro _ (And.intro (by with_unfolding_all rfl) ?_)
  | refine And.intro (by first | assumption | (with_unfolding_all exact Nat.le_of_ble_eq_true rfl) | (with_unfolding_all decide) | (with_unfolding_all rfl)) ?_
  | refine Exists.intro _ (Exists.intro _ (Exists.intro _ (And.intro (by with_unfolding_all rfl) (And.intro (by with_unfolding_all rfl) (And.intro (by with_unfolding_all rfl) ?_)))))
  | refine Exists.intro _ (Exists.intro _ (Exists.intro _ (Exists.intro _ (And.intro (by with_unfolding_all rfl) (And.intro (by with_unfolding_all rfl) (And.intro (by with_unfolding_all rfl) (And.intro (by with_unfolding_all rfl) ?_)))))))
  | refine b_eq (z := true) (by with_unfolding_all rfl) ?_ | refine b_eq (z := false) (by with_unfolding_all rfl) ?_)
local macro_rules | `(tactic| walk_at "v") => `(tactic| with_reducible first
  | walk_at "w" | refine e_recv ?_ | refine e_makeR ?_ | refine s_attr ?_ | refine e_rgL1 ?_ | refine e_callN ?_)
theorem amid_ok {rows : List Row} {k j : Nat} {rk rj : Row} (hk : rows[k]? = some rk) (hj : rows[j]? = some rj) : Rg c_law_is_amid [RT rows, .int k, .int j] (.bl (amid rk rj)) := by
  unfold Rg c_law_is_amid
  repeat walk_at "v"
  refine v_ix (xs := rows.map encR) rfl (ses_get hj) rfl ?_
  repeat walk_at "v"
  refine v_ix (xs := rows.map encR) rfl (ses_get hk) rfl ?_
  repeat walk_at "v"
  unfold amid
  by_cases h1 : rj.1 < rk.2.1
  · rw [decide_eq_true h1]
    refine b_t ?_
    repeat walk_at "v"
    refine v_ix (xs := rows.map encR) rfl (ses_get hj) rfl ?_
    simp only [Bool.true_and]
    repeat walk_at "v"
    rfl
  · rw [decide_eq_false h1]
    refine b_f ?_
    repeat walk_at "v"
    rfl
theorem meet_ok {rows : List Row} {k j : Nat} {rk rj : Row} (hk : rows[k]? = some rk) (hj : rows[j]? = some rj) (hz : rk.2.2.length ≤ 4000) : Rg c_law_meet [RT rows, .int k, .int j] (encN (commonL rk.2.2 rj.2.2)) := by
  unfold Rg c_law_meet
  repeat walk_at "v"
  refine v_ix (xs := rows.map encR) rfl (ses_get hk) rfl ?_
  repeat walk_at "v"
  refine ⟨by simpa using hz, ?_⟩
  refine wK_map (enc := D.str) (g := D.str) (fun x => decide (x ∈ rj.2.2)) rfl rk.2.2 [] (fun x hx => ?_) ?_
  · refine ⟨_, rfl, ?_⟩
    repeat walk_at "v"
    refine v_ix (xs := rows.map encR) rfl (ses_get hj) rfl ?_
    repeat walk_at "v"
    refine v_inN ?_
    repeat walk_at "v"
    exact fun _ => e_var (by rfl) ⟨rfl, rfl⟩
  · repeat walk_at "v"
    exact frz_pure (pure_encN _)
theorem pure_rt3 (rows : List Row) (k j : Int) : D.pures [RT rows, .int k, .int j] = true := by simp [D.pures, pure_RT, D.pure]
/-- a list of numbers, in hand or in a cell -/
def barsD (l : List Nat) : List D := l.map fun j : Nat => .int (j : Int)
theorem v_minC {bars : List Nat} {S : Store} {x : D} {R : D → Prop} (hx : deref S x = some (.lst (barsD bars))) (h : bars ≠ []) (q : R (.int (minB bars))) : wV (fMin S x) R := by
  obtain ⟨d, h1, h2⟩ := v_minB (S := S) (R := R) h q
  refine ⟨d, ?_, h2⟩
  rw [← h1]
  unfold fMin lstOf
  rw [hx]
  rfl
theorem toPy_bars {S : Store} {n : Nat} : ∀ l : List Nat, (barsD l).mapM (toPy S (n + 1)) = some (l.map fun j : Nat => .int (j : Int))
  | [] => rfl
  | x :: l => by
    have := toPy_bars (S := S) (n := n) l
    unfold barsD at this ⊢
    rw [List.map_cons, List.mapM_cons, this]
    rfl
theorem v_eqNil {bars : List Nat} {S : Store} {x : D} {R : D → Prop} (hx : deref S x = some (.lst (barsD bars))) (hl : bars.length ≤ 4000) (q : R (.bl bars.isEmpty)) : wV (fEq S x (.lst [])) R := by
  have e1 : fEq S (.lst (barsD bars)) (.lst []) = some (.bl bars.isEmpty) := by
    obtain ⟨d, h1, h2⟩ := v_eq (n := 1) (m := 1) (x := .lst (barsD bars)) (y := .lst []) (S := S) (R := fun d => d = .bl bars.isEmpty) (okn_lst.mpr ⟨0, rfl, by simpa [barsD] using hl, fun x hx => by
      unfold barsD at hx
      obtain ⟨j, _, rfl⟩ := List.mem_map.mp hx
      rfl⟩) rfl (by rw [beq_dec]; cases bars <;> simp [barsD])
    rw [h1, h2]
  refine ⟨_, ?_, q⟩
  cases x with
  | lst xs => cases hx; exact e1
  | loc n =>
    have hx : S[n]? = some (.lst (barsD bars)) := hx
    rw [← e1]
    unfold fEq eqD
    have e2 : toPy S 60 (.loc n) = toPy S 60 (.lst (barsD bars)) := by
      unfold toPy
      rw [hx]
    rw [e2]
  | _ => cases hx
theorem bars_snoc {rows : List Row} {rule : Str} {a : List Nat} {j k : Nat} : barsL rows rule (a ++ [j]) k = barsL rows rule a k ++ if standsAt rows rule j k = true then [j] else [] := by
  unfold barsL
  rw [List.filter_append]
  congr 1
  by_cases h : standsAt rows rule j k = true
  · simp [h]
  · simp [h]
end MM
set_option maxRecDepth 100000
set_option maxHeartbeats 1000000
namespace MM
open PySem PySem.Spec PyProof.Rows L2
local instance tab_Mp10 : Tabl := tab0
local macro_rules | `(tactic| walk_at "w") => `(tactic| with_reducible first
  | refine e_var (by with_unfolding_all rfl) ?_ | refine e_c ?_ | refine e_m2 ?_ | refine e_m1 ?_ | refine e_new ?_ | refine e_ch ?_ | refine e_and ?_ | refine e_or ?_ | refine e_not ?_ | refine e_if ?_ | refine e_tup ?_ | refine e_lst ?_ | refine e_sl ?_ | refine e_app ?_
  | refine e_callR ?_ | refine e_call ?_ | refine e_comp ?_ | refine t_b1 ?_ | refine t_tr ?_ | refine t_an ?_ | refine t_or ?_ | refine t_no ?_ | refine t_true ?_ | refine a_nil ?_ | refine a_cons ?_ | refine a_pick ?_ | refine o_no ?_ | refine o_so ?_
  | refine s_nil ?_ | refine s_retn ?_ | refine s_brk ?_ | refine s_cnt ?_ | refine s_seq ?_ | refine s_set ?_ | refine s_expr ?_ | refine s_ret ?_ | refine s_if ?_ | refine s_asg ?_ | refine s_par ?_ | refine s_sub ?_ | refine f_fn ?_
  | refine n_then ?_ | refine n_thenr ?_ | refine n_thenb ?_ | refine n_thenc ?_ | refine n_endr ?_ | refine n_endn ?_ | refine n_turn ?_ | refine n_turnc ?_ | refine n_turnb ?_ | refine n_turnr ?_ | refine i_seq ?_ | refine i_zip ?_ | refine i_enm ?_ | refine i_rg1 ?_ | refine i_rg2 ?_
  | refine b_t ?_ | refine b_f ?_ | refine v_addI ?_ | refine v_sub ?_ | refine v_some ?_
  | refine v_mod (by first | assumption | decide | omega) ?_
  | refine v_div (by first | assumption | decide | omega) ?_
  | refine v_ix (by with_unfolding_all rfl) (by with_unfolding_all rfl) (by with_unfolding_all rfl) ?_
  | refine v_tupl (by with_unfolding_all rfl) ?_ | refine v_list (by with_unfolding_all rfl) ?_ | refine v_len (by with_unfolding_all rfl) (by with_unfolding_all rfl) ?_
  | refine v_mul (by first | assumption | exact okM_l (by decide) (by decide) | exact okM_r (by decide) (by decide) | exact okM_l (by omega) (by omega) | exact okM_r (by omega) (by omega)) ?_
  | refine v_eqI ?_ | refine v_neI ?_ | refine v_mk (by with_unfolding_all rfl) ?_
  | refine Exists.intro _ (And.intro (by with_unfolding_all rfl) ?_)
  | refine And.intro (by first | assumption | (with_unfolding_all exact Nat.le_of_ble_eq_true rfl) | (with_unfolding_all decide) | (with_unfolding_all rfl)) ?_
  | refine Exists.intro _ (Exists.intro _ (Exists.intro _ (And.intro (by with_unfolding_all rfl) (And.intro (by with_unfolding_all rfl) (And.intro (by with_unfolding_all rfl) ?_)))))
  | refine Exists.intro _ (Exists.intro _ (Exists.intro _ (Exists.intro _ (And.intro (by with_unfolding_all rfl) (And.intro (by with_unfolding_all rfl) (And.intro (by with_unfolding_all rfl) (And.intro (by with_unfolding_all rfl) ?_)))))))
  | refine b_eq (z := true) (by with_unfolding_all rfl) ?_ | refine b_eq (z := false) (by with_unfolding_all rfl) ?_)
local macro_rules | `(tactic| walk_at "v") => `(tactic| with_reducible first
  | walk_at "w" | refine e_recv ?_ | refine e_makeR ?_ | refine s_attr ?_ | refine e_rgL1 ?_ | refine e_callN ?_)
def innI : MS := (sSeq (sIf (tAn (tB1 (m2 fEq (mVar 1) (mC (.str (Str.ofString "lock"))))) (tB1 (m2 fGt (m2 fIx (m2 fIx (mVar 0) (mVar 9)) (mC (.int 1))) (m2 fIx (m2 fIx (mVar 0) (mVar 6)) (mC (.int 0)))))) (sExpr (mApp (mVar 8) (mVar 9))) sNil)
  (sIf (tAn (tB1 (m2 fIn (mVar 1) (mTup (aCons (mC (.str (Str.ofString "check"))) (aCons (mC (.str (Str.ofString "merge"))) aNil))))) (tTr (mCallR false c_law_is_amid 3 (aCons (mVar 0) (aCons (mVar 9) (aCons (mVar 6) aNil)))))) (sSet 8 (m2 fAdd (mVar 8) (m2 fRepL (mLst (aCons (mVar 9) aNil)) (m1 fInt (mOr (m2 fEq (mVar 1) (mC (.str (Str.ofString "check")))) (m2 fNe (mCallR false c_law_meet 3 (aCons (mVar 0) (aCons (mVar 9) (aCons (mVar 6) aNil)))) (mTup aNil))))))) sNil))
/-- the frame of the law's own walk -/
abbrev letE (rows : List Row) (rule : Str) (x2 x5 : D) (k : Nat) (f : Int) (x8 : D) (z : Option D) : MEnv := [some (RT rows), some (.str rule), some x2, some (.loc 0), some (.loc 1), some x5, some (.int (k : Int)), some (.int f), some x8, z]
def letS (tk : List Nat) (od : List (Nat × Int)) (G : Store) : Store := .lst (barsD tk) :: .dic (od.map fun p : Nat × Int => .int (p.1 : Int)) (od.map fun p : Nat × Int => .int p.2) :: G
/-- the bars, in a cell of their own if by lock -/
def barAt (rule : Str) (x8 : D) (G : Store) (S : Store) (bars : List Nat) : Prop := deref S x8 = some (.lst (barsD bars)) ∧ (rule = sLock → ∃ n, x8 = .loc (n + 2) ∧ G[n]? = some (.lst (barsD bars)))
theorem deref_loc2 {tk : List Nat} {od : List (Nat × Int)} {G : Store} {n : Nat} : deref (letS tk od G) (.loc (n + 2)) = G[n]? := rfl
theorem v_addC {S : Store} {x : D} {xs ys : List D} {R : D → Prop} (hx : deref S x = some (.lst xs)) (hl : xs.length + ys.length ≤ 4000) (q : R (.lst (xs ++ ys))) : wV (fAdd S x (.lst ys)) R := by
  refine ⟨_, ?_, q⟩
  have e : ∀ x, deref S x = some (.lst xs) → (match deref S x, deref S (.lst ys) with
    | some (.lst xs), some (.lst ys) => if xs.length + ys.length ≤ 4000 then some (D.lst (xs ++ ys)) else none
    | _, _ => none) = some (.lst (xs ++ ys)) := fun x hx => by
      rw [hx]
      exact if_pos hl
  cases x with
  | lst zs => exact e _ hx
  | loc n => exact e _ hx
  | _ => cases hx
theorem nm_common {a b : List Str} (h : nmOk a = true) : nmOk (commonL a b) = true := by
  unfold nmOk at h ⊢
  rw [Bool.and_eq_true, decide_eq_true_eq, List.all_eq_true] at h ⊢
  exact ⟨Nat.le_trans (List.length_filter_le _ _) h.1, fun x hx => h.2 x (List.mem_filter.mp hx).1⟩
theorem nm_len {a : List Str} (h : nmOk a = true) : a.length ≤ 4000 := by
  unfold nmOk at h
  rw [Bool.and_eq_true, decide_eq_true_eq] at h
  exact h.1
theorem inn_ok {rows : List Row} {rule : Str} {x2 x5 x8 : D} {k j : Nat} {f : Int} {tk a : List Nat} {od : List (Nat × Int)} {G : Store} {B : Fl → MEnv → Store → Prop} (hr : strOkD rule = true) {rk rj : Row} (hk : rows[k]? = some rk) (hj : rows[j]? = some rj) (hnm : ∀ r ∈ rows, nmOk r.2.2 = true)
    (ha : (barsL rows rule a k).length < 1000) (hb : barAt rule x8 G (letS tk od G) (barsL rows rule a k))
    (q : ∀ x8' G', barAt rule x8' G' (letS tk od G') (barsL rows rule (a ++ [j]) k) → B .nx (letE rows rule x2 x5 k f x8' (some (.int (j : Int)))) (letS tk od G')) :
    wS innI (letE rows rule x2 x5 k f x8 (some (.int (j : Int)))) (letS tk od G) B := by
  have hnj := hnm rj (List.mem_of_getElem? hj)
  have hzj := nm_len hnj
  have es : standsAt rows rule j k = standsR rule rj rk := by unfold standsAt; rw [hj, hk]
  have hcat : ∀ b : Bool, standsR rule rj rk = b → barsL rows rule (a ++ [j]) k = barsL rows rule a k ++ if b = true then [j] else [] := fun b e => by rw [bars_snoc, es, e]
  unfold innI
  repeat walk_at "v"
  refine v_eqS hr (by decide +kernel) ?_
  repeat walk_at "v"
  refine b_d (fun h1 => ?_) fun h1 => ?_
  · obtain ⟨n, rfl, hn⟩ := hb.2 h1
    have e1 : standsR rule rj rk = decide (rk.1 < rj.2.1) := by unfold standsR; rw [if_pos h1]
    repeat walk_at "v"
    refine v_ix (xs := rows.map encR) rfl (ses_get hj) rfl ?_
    repeat walk_at "v"
    refine v_ix (xs := rows.map encR) rfl (ses_get hk) rfl ?_
    repeat walk_at "v"
    have skip : ∀ (x8' : D) (G' : Store), barAt rule x8' G' (letS tk od G') (barsL rows rule (a ++ [j]) k) → wS (sIf (tAn (tB1 (m2 fIn (mVar 1) (mTup (aCons (mC (.str (Str.ofString "check"))) (aCons (mC (.str (Str.ofString "merge"))) aNil))))) (tTr (mCallR false c_law_is_amid 3 (aCons (mVar 0) (aCons (mVar 9) (aCons (mVar 6) aNil)))))) (sSet 8 (m2 fAdd (mVar 8) (m2 fRepL (mLst (aCons (mVar 9) aNil)) (m1 fInt (mOr (m2 fEq (mVar 1) (mC (.str (Str.ofString "check")))) (m2 fNe (mCallR false c_law_meet 3 (aCons (mVar 0) (aCons (mVar 9) (aCons (mVar 6) aNil)))) (mTup aNil))))))) sNil) (letE rows rule x2 x5 k f x8' (some (.int (j : Int)))) (letS tk od G') B := by
      intro x8' G' hb'
      repeat walk_at "v"
      refine v_inN (ns := [sCheck, sMerge]) ?_
      refine ⟨_, rfl, ?_⟩
      refine b_eq (z := false) (decide_eq_false (by rw [h1]; decide +kernel)) (b_f ?_)
      refine b_f ?_
      repeat walk_at "v"
      exact q _ _ hb'
    refine b_d (fun h2 => ?_) fun h2 => ?_
    · have e2 := hcat true (by rw [e1]; exact decide_eq_true h2)
      rw [if_pos rfl] at e2
      repeat walk_at "v"
      have g2 : (letS tk od G)[n + 2]? = some (.lst (barsD (barsL rows rule a k))) := hn
      have hl4 : (barsD (barsL rows rule a k)).length < 4000 := by unfold barsD; rw [List.length_map]; omega
      refine ⟨n + 2, barsD (barsL rows rule a k), barsD (barsL rows rule a k), rfl, g2, g2, hl4, ?_⟩
      have eset : ∀ v, (letS tk od G).set (n + 2) v = letS tk od (G.set n v) := fun v => rfl
      rw [eset]
      refine n_then ?_
      have hlt : n < G.length := (List.getElem?_eq_some_iff.mp hn).1
      have e3 : (G.set n (.lst (barsD (barsL rows rule a k) ++ [.int (j : Int)])))[n]? = some (.lst (barsD (barsL rows rule (a ++ [j]) k))) := by
        rw [List.getElem?_set_self hlt, e2]
        simp [barsD]
      have hb' : barAt rule (.loc (n + 2)) (G.set n (.lst (barsD (barsL rows rule a k) ++ [.int (j : Int)]))) (letS tk od (G.set n (.lst (barsD (barsL rows rule a k) ++ [.int (j : Int)])))) (barsL rows rule (a ++ [j]) k) := ⟨e3, fun _ => ⟨n, rfl, e3⟩⟩
      exact skip _ _ hb'
    · have e2 := hcat false (by rw [e1]; exact decide_eq_false h2)
      rw [if_neg (by simp), List.append_nil] at e2
      refine s_nil (n_then ?_)
      refine skip (.loc (n + 2)) G ?_
      rw [e2]
      exact hb
  · have e0 : standsR rule rj rk = if rule = sCheck then amid rj rk else if rule = sMerge then amid rj rk && decide (0 < (commonL rj.2.2 rk.2.2).length) else false := by unfold standsR; rw [if_neg h1]
    repeat walk_at "v"
    refine v_inN (ns := [sCheck, sMerge]) ?_
    refine ⟨_, rfl, ?_⟩
    refine b_d (fun h2 => ?_) fun h2 => ?_
    · repeat walk_at "v"
      refine wC_pure (amid_ok hj hk) (pure_rt3 _ _ _) ?_
      repeat walk_at "v"
      cases hm : amid rj rk with
      | false =>
        have e2 := hcat false (by rw [e0, hm]; simp)
        rw [if_neg (by simp), List.append_nil] at e2
        repeat walk_at "v"
        refine q _ _ ?_
        rw [e2]
        exact hb
      | true =>
        repeat walk_at "v"
        refine v_eqS hr (by decide +kernel) ?_
        by_cases h3 : rule = sCheck
        · have e2 := hcat true (by rw [e0, if_pos h3, hm])
          rw [if_pos rfl] at e2
          rw [decide_eq_true h3]
          repeat walk_at "v"
          show wV (fAdd _ x8 (.lst [.int (j : Int)])) _
          refine v_addC hb.1 (by unfold barsD; rw [List.length_map]; simp; omega) ?_
          refine q (.lst (barsD (barsL rows rule a k) ++ [.int (j : Int)])) G ⟨?_, fun z => absurd z h1⟩
          rw [e2]
          simp [barsD, deref]
        · have h4 : rule = sMerge := by simpa [h3] using h2
          rw [decide_eq_false h3]
          repeat walk_at "v"
          refine wC_pure (meet_ok hj hk hzj) (pure_rt3 _ _ _) ?_
          repeat walk_at "v"
          refine v_ne (n := 1) (m := 1) (okn_names (nm_common hnj)) rfl ?_
          have e1 : standsR rule rj rk = decide (0 < (commonL rj.2.2 rk.2.2).length) := by rw [e0, if_neg h3, if_pos h4, hm, Bool.true_and]
          cases hc : commonL rj.2.2 rk.2.2 with
          | nil =>
            have e2 := hcat false (by rw [e1, hc]; rfl)
            rw [if_neg (by simp), List.append_nil] at e2
            show wV (fInt _ (.bl false)) _
            repeat walk_at "v"
            show wV (fAdd _ x8 (.lst [])) _
            refine v_addC hb.1 (by unfold barsD; rw [List.length_map]; simp; omega) ?_
            refine q (.lst (barsD (barsL rows rule a k) ++ [])) G ⟨?_, fun z => absurd z h1⟩
            rw [e2]
            simp [barsD, deref]
          | cons c cs =>
            have e2 := hcat true (by rw [e1, hc]; exact decide_eq_true (by simp))
            rw [if_pos rfl] at e2
            show wV (fInt _ (.bl true)) _
            repeat walk_at "v"
            show wV (fAdd _ x8 (.lst [.int (j : Int)])) _
            refine v_addC hb.1 (by unfold barsD; rw [List.length_map]; simp; omega) ?_
            refine q (.lst (barsD (barsL rows rule a k) ++ [.int (j : Int)])) G ⟨?_, fun z => absurd z h1⟩
            rw [e2]
            simp [barsD, deref]
    · have e2 := hcat false (by rw [e0, if_neg (fun z => h2 (by simp [z])), if_neg (fun z => h2 (by simp [z]))])
      rw [if_neg (by simp), List.append_nil] at e2
      refine b_f ?_
      repeat walk_at "v"
      refine q _ _ ?_
      rw [e2]
      exact hb
end MM
set_option maxRecDepth 100000
set_option maxHeartbeats 1000000
namespace MM
open PySem PySem.Spec PyProof.Rows L2
local instance tab_Mp11 : Tabl := tab0
local macro_rules | `(tactic| walk_at "w") => `(tactic| with_reducible first
  | refine e_var (by with_unfolding_all rfl) ?_ | refine e_c ?_ | refine e_m2 ?_ | refine e_m1 ?_ | refine e_new ?_ | refine e_ch ?_ | refine e_and ?_ | refine e_or ?_ | refine e_not ?_ | refine e_if ?_ | refine e_tup ?_ | refine e_lst ?_ | refine e_sl ?_ | refine e_app ?_
  | refine e_callR ?_ | refine e_call ?_ | refine e_comp ?_ | refine t_b1 ?_ | refine t_tr ?_ | refine t_an ?_ | refine t_or ?_ | refine t_no ?_ | refine t_true ?_ | refine a_nil ?_ | refine a_cons ?_ | refine a_pick ?_ | refine o_no ?_ | refine o_so ?_
  | refine s_nil ?_ | refine s_retn ?_ | refine s_brk ?_ | refine s_cnt ?_ | refine s_seq ?_ | refine s_set ?_ | refine s_expr ?_ | refine s_ret ?_ | refine s_if ?_ | refine s_asg ?_ | refine s_par ?_ | refine s_sub ?_ | refine f_fn ?_
  | refine n_then ?_ | refine n_thenr ?_ | refine n_thenb ?_ | refine n_thenc ?_ | refine n_endr ?_ | refine n_endn ?_ | refine n_turn ?_ | refine n_turnc ?_ | refine n_turnb ?_ | refine n_turnr ?_ | refine i_seq ?_ | refine i_zip ?_ | refine i_enm ?_ | refine i_rg1 ?_ | refine i_rg2 ?_
  | refine b_t ?_ | refine b_f ?_ | refine v_addI ?_ | refine v_sub ?_ | refine v_some ?_
  | refine v_mod (by first | assumption | decide | omega) ?_
  | refine v_div (by first | assumption | decide | omega) ?_
  | refine v_ix (by with_unfolding_all rfl) (by with_unfolding_all rfl) (by with_unfolding_all rfl) ?_
  | refine v_tupl (by with_unfolding_all rfl) ?_ | refine v_list (by with_unfolding_all rfl) ?_ | refine v_len (by with_unfolding_all rfl) (by with_unfolding_all rfl) ?_
  | refine v_mul (by first | assumption | exact okM_l (by decide) (by decide) | exact okM_r (by decide) (by decide) | exact okM_l (by omega) (by omega) | exact okM_r (by omega) (by omega)) ?_
  | refine v_eqI ?_ | refine v_neI ?_ | refine v_mk (by with_unfolding_all rfl) ?_
  | refine Exists.intro _ (And.intro (by with_unfolding_all rfl) ?_)
  | refine And.intro (by first | assumption | (with_unfolding_all exact Nat.le_of_ble_eq_true rfl) | (with_unfolding_all decide) | (with_unfolding_all rfl)) ?_
  | refine Exists.intro _ (Exists.intro _ (Exists.intro _ (And.intro (by with_unfolding_all rfl) (And.intro (by with_unfolding_all rfl) (And.intro (by with_unfolding_all rfl) ?_)))))
  | refine Exists.intro _ (Exists.intro _ (Exists.intro _ (Exists.intro _ (And.intro (by with_unfolding_all rfl) (And.intro (by with_unfolding_all rfl) (And.intro (by with_unfolding_all rfl) (And.intro (by with_unfolding_all rfl) ?_)))))))
  | refine b_eq (z := true) (by with_unfolding_all rfl) ?_ | refine b_eq (z := false) (by with_unfolding_all rfl) ?_)
local macro_rules | `(tactic| walk_at "v") => `(tactic| with_reducible first
  | walk_at "w" | refine e_recv ?_ | refine e_makeR ?_ | refine s_attr ?_ | refine e_rgL1 ?_ | refine e_callN ?_)
def outB : MS := (sSeq (sSet 8 (mNew (mLst aNil))) (sSeq (sFor (iSeq (mVar 3)) (pN 9) innI)
  (sIf (tB1 (m2 fEq (mVar 8) (mLst aNil))) (sExpr (mApp (mVar 3) (mVar 6))) (sDPutM (m1 fMin (mVar 8)) (mVar 4) (mVar 6)))))
theorem out_ok {rows : List Row} {rule : Str} {x2 x5 x8 : D} {k : Nat} {f : Int} {s : CoS} {G : Store} {z : Option D} {B : Fl → MEnv → Store → Prop} (hr : strOkD rule = true) (hk : k < rows.length) (ht : ∀ j ∈ s.1, j < rows.length) (hnm : ∀ r ∈ rows, nmOk r.2.2 = true)
    (l1 : s.1.length < 64) (l2 : s.2.length < 64) (ho : ∀ p ∈ s.2, p.1 ≠ k)
    (q : ∀ x8' z' G', B .nx (letE rows rule x2 x5 k f x8' z') (letS (comeL rows rule s k).1 (comeL rows rule s k).2 G')) :
    ∀ y8 : Option D, wS outB [some (RT rows), some (.str rule), some x2, some (.loc 0), some (.loc 1), some x5, some (.int (k : Int)), some (.int f), y8, z] (letS s.1 s.2 G) B := by
  intro y8
  have ek : rows[k]? = some rows[k] := List.getElem?_eq_getElem hk
  unfold outB
  repeat walk_at "v"
  show wL ⟨barsD s.1, [(0, .lst (barsD s.1))]⟩ (pN 9) innI (barsD s.1) (letE rows rule x2 x5 k f (.loc (letS s.1 s.2 G).length) z) (letS s.1 s.2 (G ++ [.lst []])) _
  refine wL_inv (enc := fun j : Nat => D.int (j : Int)) (fun a b e S => ∃ x8 z G', a ++ b = s.1 ∧ e = letE rows rule x2 x5 k f x8 z ∧ S = letS s.1 s.2 G' ∧ barAt rule x8 G' S (barsL rows rule a k)) ?_ ?_ s.1 [] _ _ ⟨_, _, _, rfl, rfl, rfl, ?_⟩ ?_
  · rintro a b e S ⟨x8, z, G', _, _, rfl, _⟩
    exact still_one rfl
  · rintro a j b e S ⟨x8, z, G', eab, rfl, rfl, hb⟩
    refine ⟨_, rfl, ?_⟩
    have hjl := ht j (by rw [← eab]; simp)
    have ej : rows[j]? = some rows[j] := List.getElem?_eq_getElem hjl
    have la : a.length < 64 := by have := congrArg List.length eab; simp at this; omega
    exact inn_ok hr ek ej hnm (Nat.lt_of_le_of_lt (List.length_filter_le _ _) (by omega)) hb fun x8' G' hb' => n_turn ⟨x8', _, G', by simp [eab], rfl, rfl, hb'⟩
  · have e0 : (letS s.1 s.2 (G ++ [.lst []]))[(letS s.1 s.2 G).length]? = some (.lst []) := by
      show (D.lst (barsD s.1) :: D.dic _ _ :: (G ++ [.lst []]))[G.length + 2]? = _
      simp
    refine ⟨e0, fun _ => ⟨G.length, rfl, ?_⟩⟩
    simp
    rfl
  · rintro e S ⟨x8, z, G', eab, rfl, rfl, hb⟩
    rw [List.nil_append] at hb
    have hbl : (barsL rows rule s.1 k).length ≤ 4000 := Nat.le_trans (List.length_filter_le _ _) (by omega)
    refine n_then ?_
    repeat walk_at "v"
    refine v_eqNil hb.1 hbl ?_
    refine ⟨_, rfl, ?_⟩
    unfold comeL at q
    cases he : (barsL rows rule s.1 k).isEmpty with
    | true =>
      rw [if_pos he] at q
      repeat walk_at "v"
      refine ⟨by unfold barsD; rw [List.length_map]; omega, ?_⟩
      have e1 : (letS s.1 s.2 G').set 0 (.lst (barsD s.1 ++ [.int (k : Int)])) = letS (s.1 ++ [k]) s.2 G' := by simp [letS, barsD]
      rw [e1]
      exact q _ _ _
    | false =>
      rw [if_neg (by rw [he]; simp)] at q
      refine b_f ?_
      refine s_dput ?_
      repeat walk_at "v"
      refine v_minC hb.1 (fun z => by rw [z] at he; cases he) ?_
      repeat walk_at "v"
      refine ⟨⟨isK_od _, by rw [List.length_map]; omega⟩, ?_⟩
      have e1 : (letS s.1 s.2 G').set 1 (dPut (s.2.map fun p : Nat × Int => .int (p.1 : Int)) (s.2.map fun p : Nat × Int => .int p.2) (.int (k : Int)) (.int (minB (barsL rows rule s.1 k)))) = letS s.1 (s.2 ++ [(k, minB (barsL rows rule s.1 k))]) G' := by
        unfold dPut
        rw [hasV_no ho]
        simp [letS]
      rw [e1]
      exact q _ _ _
end MM
set_option maxRecDepth 100000
set_option maxHeartbeats 1000000
namespace MM
open PySem PySem.Spec PyProof.Rows L2
local instance tab_Mp12 : Tabl := tab0
local macro_rules | `(tactic| walk_at "w") => `(tactic| with_reducible first
  | refine e_var (by with_unfolding_all rfl) ?_ | refine e_c ?_ | refine e_m2 ?_ | refine e_m1 ?_ | refine e_new ?_ | refine e_ch ?_ | refine e_and ?_ | refine e_or ?_ | refine e_not ?_ | refine e_if ?_ | refine e_tup ?_ | refine e_lst ?_ | refine e_sl ?_ | refine e_app ?_
  | refine e_callR ?_ | refine e_call ?_ | refine e_comp ?_ | refine t_b1 ?_ | refine t_tr ?_ | refine t_an ?_ | refine t_or ?_ | refine t_no ?_ | refine t_true ?_ | refine a_nil ?_ | refine a_cons ?_ | refine a_pick ?_ | refine o_no ?_ | refine o_so ?_
  | refine s_nil ?_ | refine s_retn ?_ | refine s_brk ?_ | refine s_cnt ?_ | refine s_seq ?_ | refine s_set ?_ | refine s_expr ?_ | refine s_ret ?_ | refine s_if ?_ | refine s_asg ?_ | refine s_par ?_ | refine s_sub ?_ | refine f_fn ?_
  | refine n_then ?_ | refine n_thenr ?_ | refine n_thenb ?_ | refine n_thenc ?_ | refine n_endr ?_ | refine n_endn ?_ | refine n_turn ?_ | refine n_turnc ?_ | refine n_turnb ?_ | refine n_turnr ?_ | refine i_seq ?_ | refine i_zip ?_ | refine i_enm ?_ | refine i_rg1 ?_ | refine i_rg2 ?_
  | refine b_t ?_ | refine b_f ?_ | refine v_addI ?_ | refine v_sub ?_ | refine v_some ?_
  | refine v_mod (by first | assumption | decide | omega) ?_
  | refine v_div (by first | assumption | decide | omega) ?_
  | refine v_ix (by with_unfolding_all rfl) (by with_unfolding_all rfl) (by with_unfolding_all rfl) ?_
  | refine v_tupl (by with_unfolding_all rfl) ?_ | refine v_list (by with_unfolding_all rfl) ?_ | refine v_len (by with_unfolding_all rfl) (by with_unfolding_all rfl) ?_
  | refine v_mul (by first | assumption | exact okM_l (by decide) (by decide) | exact okM_r (by decide) (by decide) | exact okM_l (by omega) (by omega) | exact okM_r (by omega) (by omega)) ?_
  | refine v_eqI ?_ | refine v_neI ?_ | refine v_mk (by with_unfolding_all rfl) ?_
  | refine Exists.intro _ (And.intro (by with_unfolding_all rfl) ?_)
  | refine And.intro (by first | assumption | (with_unfolding_all exact Nat.le_of_ble_eq_true rfl) | (with_unfolding_all decide) | (with_unfolding_all rfl)) ?_
  | refine Exists.intro _ (Exists.intro _ (Exists.intro _ (And.intro (by with_unfolding_all rfl) (And.intro (by with_unfolding_all rfl) (And.intro (by with_unfolding_all rfl) ?_)))))
  | refine Exists.intro _ (Exists.intro _ (Exists.intro _ (Exists.intro _ (And.intro (by with_unfolding_all rfl) (And.intro (by with_unfolding_all rfl) (And.intro (by with_unfolding_all rfl) (And.intro (by with_unfolding_all rfl) ?_)))))))
  | refine b_eq (z := true) (by with_unfolding_all rfl) ?_ | refine b_eq (z := false) (by with_unfolding_all rfl) ?_)
local macro_rules | `(tactic| walk_at "v") => `(tactic| with_reducible first
  | walk_at "w" | refine e_recv ?_ | refine e_makeR ?_ | refine s_attr ?_ | refine e_rgL1 ?_ | refine e_callN ?_)
theorem v_sortD {rows : List Row} {l : List Nat} {S : Store} {R : D → Prop} (hl : l.length ≤ 4000) (q : R (.lst ((isort (leK rows) l).map fun k : Nat => .tup [.int (opn rows k), .int k]))) : wV (fSortD S (.lst (l.map fun k : Nat => .tup [.int (opn rows k), .int k]))) R := by
  refine ⟨_, ?_, q⟩
  unfold fSortD
  show (if (l.map fun k : Nat => D.tup [.int (opn rows k), .int k]).length ≤ 4000 then ((l.map fun k : Nat => D.tup [.int (opn rows k), .int k]).mapM (toPy S 60)).bind _ else none) = _
  rw [if_pos (by rw [List.length_map]; exact hl), mapM_keys]
  show (if okSort (l.map fun k : Nat => keyP (opn rows k) k) = true then _ else none) = _
  rw [if_pos (okSort_keys _ _ _), sortK_map]
theorem v_sortC {l : List Nat} {S : Store} {x : D} {R : D → Prop} (hx : deref S x = some (.lst (barsD l))) (hl : l.length < 64) (q : R (.lst ((sortI (l.map fun k : Nat => (k : Int))).map .int))) : wV (fSorted S x) R := by
  obtain ⟨d, h1, h2⟩ := v_sortI (S := S) (R := R) hl q
  refine ⟨d, ?_, h2⟩
  rw [← h1]
  unfold fSorted lstOf
  rw [hx]
  rfl
/-- the first of each pair of the line -/
def beatOf (rows : List Row) (rule : Str) (k : Nat) : Int := if rule = sLock then opn rows k else 0
theorem let_ok {rows : List Row} {rule : Str} {there : List Nat} (hr : strOkD rule = true) (ht : ∀ k ∈ there, k < rows.length) (hp : there.Pairwise (· < ·)) (hl : there.length < 64) (hnm : ∀ r ∈ rows, nmOk r.2.2 = true) :
    Rg c_law_let [RT rows, .str rule, .lst (there.map fun k : Nat => .int (k : Int))] (.tup [letD (couS rows rule there), .lst (refL (couS rows rule there).2)]) := by
  have P := line_perm (rows := rows) (rule := rule) (there := there)
  have nd : (lineL rows rule there).Nodup := P.nodup_iff.mpr (hp.imp fun h => Nat.ne_of_lt h)
  have main : ∀ (B : Fl → MEnv → Store → Prop), (∀ x5 y6 y7 y8 z G, B .nx [some (RT rows), some (.str rule), some (.lst (there.map fun k : Nat => .int (k : Int))), some (.loc 0), some (.loc 1), some x5, y6, y7, y8, z] (letS (couS rows rule there).1 (couS rows rule there).2 G)) →
      wS (sFor (iSeq (mVar 5)) (pT 2 (pCons (pN 7) (pCons (pN 6) pNil))) outB) [some (RT rows), some (.str rule), some (.lst (there.map fun k : Nat => .int (k : Int))), some (.loc 0), some (.loc 1), some (.lst ((lineL rows rule there).map fun k : Nat => .tup [.int (beatOf rows rule k), .int k])), none, none, none, none] (letS [] [] []) B := by
    intro B q
    repeat walk_at "v"
    refine wL_inv (enc := fun k : Nat => D.tup [.int (beatOf rows rule k), .int k]) (fun a b e S => a ++ b = lineL rows rule there ∧ ∃ y6 y7 y8 z G, S = letS (runL rows rule a).1 (runL rows rule a).2 G ∧ e = [some (RT rows), some (.str rule), some (.lst (there.map fun k : Nat => .int (k : Int))), some (.loc 0), some (.loc 1), some (.lst ((lineL rows rule there).map fun k : Nat => .tup [.int (beatOf rows rule k), .int k])), y6, y7, y8, z]) (fun _ _ _ _ _ => rfl) ?_ (lineL rows rule there) [] _ _ ⟨rfl, none, none, none, none, [], rfl, rfl⟩ ?_
    · rintro a k b e S ⟨eab, y6, y7, y8, z, G, rfl, rfl⟩
      refine ⟨_, rfl, ?_⟩
      have hkm : k ∈ lineL rows rule there := by rw [← eab]; simp
      have hk : k < rows.length := ht k (P.mem_iff.mp hkm)
      have inv := run_inv (rows := rows) (rule := rule) a
      have nda : k ∉ a := fun z => by
        rw [← eab] at nd
        exact (List.nodup_append.mp nd).2.2 k z k (by simp) rfl
      have la : a.length < 64 := by
        have := P.length_eq
        rw [← eab] at this
        simp at this
        omega
      refine out_ok (x8 := D.non) (s := runL rows rule a) hr hk (fun j hj => ?_) hnm (by omega) (by omega) (fun p hp z => nda (z ▸ inv.2.1 p hp)) (fun x8' z' G' => n_turn ⟨by simp [eab], _, _, _, _, G', ?_, rfl⟩) y8
      · exact ht j (P.mem_iff.mp (by rw [← eab]; exact List.mem_append_left _ (inv.1 j hj)))
      · rw [runL_snoc]
    · rintro e S ⟨_, y6, y7, y8, z, G, rfl, rfl⟩
      rw [List.nil_append]
      exact q _ _ _ _ _ _
  have lens := run_inv (rows := rows) (rule := rule) (lineL rows rule there)
  have ll : (lineL rows rule there).length < 64 := by rw [P.length_eq]; exact hl
  have l1 : (couS rows rule there).1.length < 64 := Nat.lt_of_le_of_lt lens.2.2.1 ll
  have l2 : (couS rows rule there).2.length < 64 := Nat.lt_of_le_of_lt lens.2.2.2 ll
  have rest : wS (sSeq (sFor (iSeq (mVar 5)) (pT 2 (pCons (pN 7) (pCons (pN 6) pNil))) outB) (sRet (mTup (aCons (m1 fTuple (m1 fSorted (mVar 3))) (aCons (mComp (iSeq (m1 fDSorted (mVar 4))) [6] (pN 6) tTrue (mTup (aCons (mVar 6) (aCons (m2 fDGet (mVar 4) (mVar 6)) aNil)))) aNil)))))
      [some (RT rows), some (.str rule), some (.lst (there.map fun k : Nat => .int (k : Int))), some (.loc 0), some (.loc 1), some (.lst ((lineL rows rule there).map fun k : Nat => .tup [.int (beatOf rows rule k), .int k])), none, none, none, none] (letS [] [] []) (endF fun d S' => frzD S' 30 d = some (.tup [letD (couS rows rule there), .lst (refL (couS rows rule there).2)])) := by
    refine s_seq (main _ fun x5 y6 y7 y8 z G => ?_)
    repeat walk_at "v"
    refine v_sortC (l := (couS rows rule there).1) rfl l1 ?_
    repeat walk_at "v"
    refine v_dsort (od := (couS rows rule there).2) rfl l2 ?_
    repeat walk_at "v"
    refine ⟨by rw [List.length_map, keysI_len]; omega, ?_⟩
    refine wK_map0 (enc := D.int) (g := fun k => .tup [.int k, .int (lookI k (couS rows rule there).2)]) rfl (keysI (couS rows rule there).2) [] (fun k hk => ?_) ?_
    · refine ⟨_, rfl, ?_⟩
      repeat walk_at "v"
      refine v_dget (od := (couS rows rule there).2) rfl (mem_keysI hk) ?_
      repeat walk_at "v"
      exact rfl
    · repeat walk_at "v"
      refine frz_pure ?_
      have h9 := pure_refL (couS rows rule there).2
      unfold refL at h9
      simp [letD, D.pure, D.pures, pures_of, h9]
  unfold Rg c_law_let
  repeat walk_at "v"
  refine v_eqS hr (by decide +kernel) ?_
  refine ⟨_, rfl, ?_⟩
  refine b_d (fun h1 => ?_) fun h1 => ?_
  · repeat walk_at "v"
    refine ⟨by rw [List.length_map]; omega, ?_⟩
    refine wK_map0 (enc := fun k : Nat => D.int (k : Int)) (g := fun k : Nat => .tup [.int (opn rows k), .int k]) rfl there [] (fun k hk => ?_) ?_
    · have hkl := ht k hk
      have ek : rows[k]? = some rows[k] := List.getElem?_eq_getElem hkl
      refine ⟨_, rfl, ?_⟩
      repeat walk_at "v"
      refine v_ix (xs := rows.map encR) rfl (ses_get ek) rfl ?_
      repeat walk_at "v"
      unfold opn
      rw [ek]
      first | exact rfl | exact ⟨rfl, rfl⟩
    · rw [List.nil_append]
      refine v_sortD (by omega) ?_
      refine n_then ?_
      have e1 : lineL rows rule there = isort (leK rows) there := by unfold lineL; rw [if_pos h1]
      have e2 : (fun k : Nat => D.tup [.int (beatOf rows rule k), .int k]) = fun k : Nat => D.tup [.int (opn rows k), .int k] := by funext k; unfold beatOf; rw [if_pos h1]
      rw [e1, e2] at rest
      exact rest
  · repeat walk_at "v"
    refine v_sortI hl ?_
    rw [sortI_up hp]
    repeat walk_at "v"
    refine ⟨by rw [List.length_map]; omega, ?_⟩
    refine wK_map0 (enc := fun k : Nat => D.int (k : Int)) (g := fun k : Nat => .tup [.int 0, .int k]) rfl there [] (fun k hk => ?_) ?_
    · refine ⟨_, rfl, ?_⟩
      repeat walk_at "v"
      first | exact rfl | exact ⟨rfl, rfl⟩
    · rw [List.nil_append]
      refine n_then ?_
      have e1 : lineL rows rule there = there := by unfold lineL; rw [if_neg h1]
      have e2 : (fun k : Nat => D.tup [.int (beatOf rows rule k), .int k]) = fun k : Nat => D.tup [.int 0, .int k] := by funext k; unfold beatOf; rw [if_neg h1]
      rw [e1, e2] at rest
      exact rest
end MM
set_option maxRecDepth 100000
set_option maxHeartbeats 4000000
namespace MM
open PySem PySem.Spec PyProof.Rows L2
def c_between_for : Fn := fnM 3 (sSeq (sSet 2 (mMakeR (Str.ofString "Sessions") c_Sessions_init 2 (aCons (mVar 0) aNil)))
  (sRet (mCallR false c_Sessions_between 2 (aCons (mRecv (Str.ofString "Sessions") (mVar 2)) (aCons (mCallR false c_Sessions_check 2 (aCons (mRecv (Str.ofString "Sessions") (mVar 2)) (aCons (mVar 1) aNil))) aNil)))))
def c_shared : Fn := fnM 4 (sSeq (sSet 3 (mMakeR (Str.ofString "Sessions") c_Sessions_init 2 (aCons (mVar 0) aNil)))
  (sRet (mCallR false c_Sessions_common 3 (aCons (mRecv (Str.ofString "Sessions") (mVar 3)) (aCons (mCallR false c_Sessions_check 2 (aCons (mRecv (Str.ofString "Sessions") (mVar 3)) (aCons (mVar 1) aNil))) (aCons (mCallR false c_Sessions_check 2 (aCons (mRecv (Str.ofString "Sessions") (mVar 3)) (aCons (mVar 2) aNil))) aNil))))))
def c_can_be_apart : Fn := fnM 7 (sSeq (sSet 2 (mMakeR (Str.ofString "Sessions") c_Sessions_init 2 (aCons (mVar 0) aNil)))
  (sSeq (sSet 3 (mComp (iSeq (mVar 1)) [4] (pN 4) tTrue (mCallR false c_Sessions_check 2 (aCons (mRecv (Str.ofString "Sessions") (mVar 2)) (aCons (mVar 4) aNil)))))
  (sRet (mNot (m1 fAny (mComp2 (iSeq (mVar 3)) [5, 6] (pN 5) tTrue (iSeq (mVar 3)) [6] (pN 6) tTrue (mCallR false c_Sessions_is_between 3 (aCons (mRecv (Str.ofString "Sessions") (mVar 2)) (aCons (mVar 5) (aCons (mVar 6) aNil))))))))))
def c_most_apart : Fn := fnM 1 (sRet (m1 fLen (mCallR false c_accepted 2 (aCons (mVar 0) (aCons (mC (.str (Str.ofString "check"))) aNil)))))
def c_how_many_greatest : Fn := fnM 12 (sSeq (sPar (aCons (mCallR false (c_tupled 14) 1 (aCons (mVar 0) aNil)) (aCons (mNew (mLst aNil)) aNil)) (pCons (pN 1) (pCons (pN 2) pNil)))
  (sSeq (sFor (iSeq (mVar 1)) (pT 3 (pCons (pN 3) (pCons (pN 4) (pCons (pN 5) pNil)))) (sSeq (sSet 6 (mOr (mComp (iZip2 (mVar 2) (mVar 1)) [7, 8] (pT 2 (pCons (pN 7) (pCons (pN 8) pNil))) (tB1 (m2 fLe (m2 fIx (mVar 8) (mC (.int 1))) (mVar 3))) (mVar 7)) (mLst (aCons (mTup (aCons (mC (.int 0)) (aCons (mC (.int 1)) aNil))) aNil))))
  (sSeq (sSet 9 (m1 fMax (mComp (iSeq (mVar 6)) [10, 11] (pT 2 (pCons (pN 10) (pCons (pN 11) pNil))) tTrue (mVar 10))))
  (sExpr (mApp (mVar 2) (mTup (aCons (m2 fAdd (mVar 9) (mC (.int 1))) (aCons (m1 fSum (mComp (iSeq (mVar 6)) [10, 11] (pT 2 (pCons (pN 10) (pCons (pN 11) pNil))) (tB1 (m2 fEq (mVar 10) (mVar 9))) (mVar 11))) aNil))))))))
  (sSeq (sIf (tB1 (m2 fEq (m1 fLen (mVar 2)) (mC (.int 0)))) (sRet (mC (.int 1))) sNil)
  (sSeq (sSet 9 (m1 fMax (mComp (iSeq (mVar 2)) [10, 11] (pT 2 (pCons (pN 10) (pCons (pN 11) pNil))) tTrue (mVar 10))))
  (sRet (m1 fSum (mComp (iSeq (mVar 2)) [10, 11] (pT 2 (pCons (pN 10) (pCons (pN 11) pNil))) (tB1 (m2 fEq (mVar 10) (mVar 9))) (mVar 11))))))))
def c_law_subsets : Fn := fnM 4 (sSeq (sSet 1 (mLst (aCons (mTup aNil) aNil)))
  (sSeq (sFor (iRg1 (mVar 0)) (pN 2) (sSet 1 (m2 fAddL (mVar 1) (mComp (iSeq (mVar 1)) [3] (pN 3) tTrue (m2 fAdd (mVar 3) (mTup (aCons (mVar 2) aNil)))))))
  (sRet (mVar 1))))
def c_law_depth : Fn := fnM 5 (sSeq (sSet 2 (mComp (iSeq (mVar 1)) [3] (pN 3) tTrue (m2 fAdd (m2 fIx (m2 fIx (mVar 0) (mVar 3)) (mC (.int 0))) (mC (.int 1)))))
  (sRet (m1 fMax (m2 fAddL (mComp (iSeq (mVar 2)) [4] (pN 4) tTrue (m1 fLen (mComp (iSeq (mVar 1)) [3] (pN 3) (tB1 (mCh fLt fLe (m2 fIx (m2 fIx (mVar 0) (mVar 3)) (mC (.int 0))) (mVar 4) (m2 fIx (m2 fIx (mVar 0) (mVar 3)) (mC (.int 1))))) (mVar 3)))) (mLst (aCons (mC (.int 0)) aNil))))))
def c_law_greatest : Fn := fnM 5 (sSeq (sSet 2 (mComp (iSeq (mCallR false c_law_subsets 1 (aCons (m1 fLen (mVar 0)) aNil))) [3] (pN 3) (tB1 (m2 fLe (mCallR false c_law_depth 2 (aCons (mVar 0) (aCons (mVar 3) aNil))) (mVar 1))) (mVar 3)))
  (sSeq (sSet 4 (m1 fMax (mComp (iSeq (mVar 2)) [3] (pN 3) tTrue (m1 fLen (mVar 3)))))
  (sRet (mComp (iSeq (mVar 2)) [3] (pN 3) (tB1 (m2 fEq (m1 fLen (mVar 3)) (mVar 4))) (mVar 3)))))
def c_dealt_out : Fn := fnM 10 (sSeq (sPar (aCons (mNew (m2 fRepL (mLst (aCons (mC (.int (-1))) aNil)) (mVar 1))) (aCons (mNew (mLst aNil)) aNil)) (pCons (pN 2) (pCons (pN 3) pNil)))
  (sSeq (sFor (iSeq (mCallR false (c_tupled 14) 1 (aCons (mVar 0) aNil))) (pT 3 (pCons (pN 4) (pCons (pN 5) (pCons (pN 6) pNil)))) (sSeq (sSet 7 (mComp (iEnm (mVar 2)) [8, 9] (pT 2 (pCons (pN 8) (pCons (pN 9) pNil))) (tB1 (m2 fLe (mVar 9) (mVar 4))) (mTup (aCons (mVar 9) (aCons (m2 fSub (mC (.int 0)) (mVar 8)) aNil)))))
  (sSeq (sSet 8 (mIf (tB1 (m2 fGt (m1 fLen (mVar 7)) (mC (.int 0)))) (m2 fSub (mC (.int 0)) (m2 fIx (m1 fMax (mVar 7)) (mC (.int 1)))) (mC .non)))
  (sSeq (sIf (tB1 (m2 fIsN (mVar 8) (mC .non))) (sSub (mVar 5) (mVar 2) (mVar 8)) sNil)
  (sExpr (mApp (mVar 3) (mVar 8)))))))
  (sRet (m1 fTuple (mVar 3)))))
def c_most_with : Fn := fnM 3 (sRet (m1 fLen (mComp (iSeq (mCallR false c_dealt_out 2 (aCons (mVar 0) (aCons (mVar 1) aNil)))) [2] (pN 2) (tB1 (m2 fIsN (mVar 2) (mC .non))) (mVar 2))))
def c_in_all : Fn := fnM 4 (sSeq (sAsg (mTup (aCons (mCallR false (c_tupled 14) 1 (aCons (mVar 0) aNil)) (aCons (mCallR false c_most_apart 1 (aCons (mVar 0) aNil)) aNil))) (pT 2 (pCons (pN 1) (pCons (pN 2) pNil))))
  (sRet (m1 fTuple (mComp (iRg1 (m1 fLen (mVar 1))) [3] (pN 3) (tB1 (m2 fLt (mCallR false c_most_apart 1 (aCons (m2 fAdd (mSl fSl (mVar 1) oNo (oSo (mVar 3))) (mSl fSl (mVar 1) (oSo (m2 fAdd (mVar 3) (mC (.int 1)))) oNo)) aNil)) (mVar 2))) (mVar 3)))))
def c_most_around : Fn := fnM 8 (sSeq (sAsg (m2 fIx (mVar 0) (mVar 1)) (pT 3 (pCons (pN 2) (pCons (pN 3) (pCons (pN 4) pNil)))))
  (sSeq (sSet 5 (m1 fTuple (mComp (iSeq (mVar 0)) [6] (pN 6) (tB1 (m2 fLe (m2 fIx (mVar 6) (mC (.int 1))) (mVar 2))) (mVar 6))))
  (sSeq (sSet 7 (m1 fTuple (mComp (iSeq (mVar 0)) [6] (pN 6) (tB1 (m2 fGe (m2 fIx (mVar 6) (mC (.int 0))) (mVar 3))) (mVar 6))))
  (sRet (m2 fAdd (m2 fAdd (mCallR false c_most_apart 1 (aCons (mVar 5) aNil)) (mC (.int 1))) (mCallR false c_most_apart 1 (aCons (mVar 7) aNil)))))))
def c_in_some : Fn := fnM 4 (sSeq (sAsg (mTup (aCons (mCallR false (c_tupled 14) 1 (aCons (mVar 0) aNil)) (aCons (mCallR false c_most_apart 1 (aCons (mVar 0) aNil)) aNil))) (pT 2 (pCons (pN 1) (pCons (pN 2) pNil))))
  (sRet (m1 fTuple (mComp (iRg1 (m1 fLen (mVar 1))) [3] (pN 3) (tB1 (m2 fEq (mCallR false c_most_around 2 (aCons (mVar 1) (aCons (mVar 3) aNil))) (mVar 2))) (mVar 3)))))
def c_is_number : Fn := fnM 2 (sRet (mAnd (m1 (fIsi .int) (mVar 0)) (mAnd (mNot (m1 (fIsi .bl) (mVar 0))) (m2 fGe (mVar 0) (mVar 1)))))
def c_rises : Fn := fnM 3 (sRet (m1 fAll (mComp (iZip2 (mVar 0) (mSl fSl (mVar 0) (oSo (mC (.int 1))) oNo)) [1, 2] (pT 2 (pCons (pN 1) (pCons (pN 2) pNil))) tTrue (m2 fLt (mVar 1) (mVar 2)))))
def c_missed : Fn := fnM 6 (sRet (m1 fLen (mComp (iSeq (mVar 0)) [2, 3, 4] (pT 3 (pCons (pN 2) (pCons (pN 3) (pCons (pN 4) pNil)))) (tNo (tTr (m1 fAny (mComp (iSeq (mVar 1)) [5] (pN 5) tTrue (mCh fLt fLe (mVar 2) (mVar 5) (mVar 3)))))) (mC (.int 1)))))
def c_are_beats_for : Fn := fnM 4 (sSeq (sIf (tOr' (tNo (tTr (m1 (fIsi .tup) (mVar 2)))) (tOr' (tNo (tTr (m1 fAll (mComp (iSeq (mVar 2)) [3] (pN 3) tTrue (mCallR false c_is_number 2 (aCons (mVar 3) (aCons (mC (.int 0)) aNil))))))) (tNo (tTr (mCallR false c_rises 1 (aCons (mVar 2) aNil)))))) (sRet (mC (.bl false))) sNil)
  (sRet (m2 fEq (m2 fAdd (m2 fMul (mVar 1) (m1 fLen (mVar 2))) (mCallR false c_missed 2 (aCons (mCallR false (c_tupled 14) 1 (aCons (mVar 0) aNil)) (aCons (mVar 2) aNil)))) (mCallR false c_most_with 2 (aCons (mVar 0) (aCons (mVar 1) aNil))))))
end MM
set_option maxRecDepth 100000
set_option maxHeartbeats 1000000
namespace MM
open PySem PySem.Spec PyProof.Rows L2
local instance tab_Mp13 : Tabl := tab0
local macro_rules | `(tactic| walk_at "w") => `(tactic| with_reducible first
  | refine e_var (by with_unfolding_all rfl) ?_ | refine e_c ?_ | refine e_m2 ?_ | refine e_m1 ?_ | refine e_new ?_ | refine e_ch ?_ | refine e_and ?_ | refine e_or ?_ | refine e_not ?_ | refine e_if ?_ | refine e_tup ?_ | refine e_lst ?_ | refine e_sl ?_ | refine e_app ?_
  | refine e_callR ?_ | refine e_call ?_ | refine e_comp ?_ | refine t_b1 ?_ | refine t_tr ?_ | refine t_an ?_ | refine t_or ?_ | refine t_no ?_ | refine t_true ?_ | refine a_nil ?_ | refine a_cons ?_ | refine a_pick ?_ | refine o_no ?_ | refine o_so ?_
  | refine s_nil ?_ | refine s_retn ?_ | refine s_brk ?_ | refine s_cnt ?_ | refine s_seq ?_ | refine s_set ?_ | refine s_expr ?_ | refine s_ret ?_ | refine s_if ?_ | refine s_asg ?_ | refine s_par ?_ | refine s_sub ?_ | refine f_fn ?_
  | refine n_then ?_ | refine n_thenr ?_ | refine n_thenb ?_ | refine n_thenc ?_ | refine n_endr ?_ | refine n_endn ?_ | refine n_turn ?_ | refine n_turnc ?_ | refine n_turnb ?_ | refine n_turnr ?_ | refine i_seq ?_ | refine i_zip ?_ | refine i_enm ?_ | refine i_rg1 ?_ | refine i_rg2 ?_
  | refine b_t ?_ | refine b_f ?_ | refine v_addI ?_ | refine v_sub ?_ | refine v_some ?_
  | refine v_mod (by first | assumption | decide | omega) ?_
  | refine v_div (by first | assumption | decide | omega) ?_
  | refine v_ix (by with_unfolding_all rfl) (by with_unfolding_all rfl) (by with_unfolding_all rfl) ?_
  | refine v_tupl (by with_unfolding_all rfl) ?_ | refine v_list (by with_unfolding_all rfl) ?_ | refine v_len (by with_unfolding_all rfl) (by with_unfolding_all rfl) ?_
  | refine v_mul (by first | assumption | exact okM_l (by decide) (by decide) | exact okM_r (by decide) (by decide) | exact okM_l (by omega) (by omega) | exact okM_r (by omega) (by omega)) ?_
  | refine v_eqI ?_ | refine v_neI ?_ | refine v_mk (by with_unfolding_all rfl) ?_
  | refine Exists.intro _ (And.intro (by with_unfolding_all rfl) ?_)
  | refine And.intro (by first | assumption | (with_unfolding_all exact Nat.le_of_ble_eq_true rfl) | (with_unfolding_all decide) | (with_unfolding_all rfl)) ?_
  | refine Exists.intro _ (Exists.intro _ (Exists.intro _ (And.intro (by with_unfolding_all rfl) (And.intro (by with_unfolding_all rfl) (And.intro (by with_unfolding_all rfl) ?_)))))
  | refine Exists.intro _ (Exists.intro _ (Exists.intro _ (Exists.intro _ (And.intro (by with_unfolding_all rfl) (And.intro (by with_unfolding_all rfl) (And.intro (by with_unfolding_all rfl) (And.intro (by with_unfolding_all rfl) ?_)))))))
  | refine b_eq (z := true) (by with_unfolding_all rfl) ?_ | refine b_eq (z := false) (by with_unfolding_all rfl) ?_)
local macro_rules | `(tactic| walk_at "v") => `(tactic| with_reducible first
  | walk_at "w" | refine e_recv ?_ | refine e_makeR ?_ | refine s_attr ?_ | refine e_rgL1 ?_)
/-- the numbers taken, in order -/
def lettN (l : List Nat) : List Nat := (sortI (l.map fun k : Nat => (k : Int))).map Int.toNat
theorem lettN_map (l : List Nat) : (sortI (l.map fun k : Nat => (k : Int))).map D.int = (lettN l).map fun k : Nat => .int (k : Int) := by
  unfold lettN
  rw [List.map_map]
  refine List.map_congr_left fun x hx => ?_
  obtain ⟨k, _, rfl⟩ := List.mem_map.mp ((sortI_perm _).mem_iff.mp hx)
  rfl
theorem mem_lettN {l : List Nat} {k : Nat} : k ∈ lettN l ↔ k ∈ l := by
  unfold lettN
  rw [List.mem_map]
  constructor
  · rintro ⟨x, hx, rfl⟩
    obtain ⟨j, hj, rfl⟩ := List.mem_map.mp ((sortI_perm _).mem_iff.mp hx)
    exact hj
  · intro h
    exact ⟨(k : Int), (sortI_perm _).mem_iff.mpr (List.mem_map.mpr ⟨k, h, rfl⟩), rfl⟩
theorem letD_eq (s : CoS) : letD s = .tup ((lettN s.1).map fun k : Nat => .int (k : Int)) := by
  unfold letD
  rw [lettN_map]
theorem ses_check {rows : List Row} {k : Nat} (h : k < rows.length) : Rg c_Sessions_check [SesD rows, .int k] (.int k) := by
  unfold Rg c_Sessions_check
  repeat walk_at "v"
  refine b_nd (fun h1 => absurd (by rw [List.length_map]; omega) h1) fun h1 => ?_
  repeat walk_at "v"
  exact rfl
def savN (rows : List Row) (k : Nat) : Int := match rows[k]? with
  | some r => r.2.1
  | none => 0
theorem taken_lt {rows : List Row} {rule : Str} {there : List Nat} (ht : ∀ k ∈ there, k < rows.length) {j : Nat} (h : j ∈ (couS rows rule there).1) : j < rows.length :=
  ht j (line_perm.mem_iff.mp ((run_inv (rows := rows) (rule := rule) (lineL rows rule there)).1 j h))
theorem lettN_len (l : List Nat) : (lettN l).length = l.length := by
  unfold lettN
  rw [List.length_map, (sortI_perm _).length_eq, List.length_map]
def seenL (rows : List Row) (rule : Str) (k : Nat) : List Nat := (lettN (allS rows rule).1).filter fun j => decide (savN rows j ≤ opn rows k)
theorem seen_by_ok {d : D} {rows : List Row} {rule : Str} {k : Nat} (hd : D.ok 13 d = true) (t : tupD d = RT rows) (hr : strOkD rule = true) (R : RwOk rows) (hk : k < rows.length) : Rg c_seen_by [d, .str rule, .int k] (.tup ((seenL rows rule k).map fun j : Nat => .int (j : Int))) := by
  have ek : rows[k]? = some rows[k] := List.getElem?_eq_getElem hk
  unfold Rg c_seen_by
  repeat walk_at "v"
  refine ⟨⟨rfl, pures1 (ok_pure hd)⟩, ?_⟩
  refine (ses_init hd t).mono fun x S ⟨e, r, hf, er⟩ => ?_
  subst er
  refine ⟨e, _, hf, ?_⟩
  repeat walk_at "v"
  refine ⟨⟨_, rfl⟩, ?_⟩
  repeat walk_at "v"
  refine ⟨⟨_, rfl⟩, ?_⟩
  repeat walk_at "v"
  refine wC_pure (ses_check hk) (pure_ses2 _ _) ?_
  repeat walk_at "v"
  refine wC_pure (ses_opening ek) (pure_ses2 _ _) ?_
  repeat walk_at "v"
  refine wC_pure (accepted_ok hd t hr R) (by simp [D.pures, ok_pure hd, D.pure]) ?_
  rw [letD_eq]
  repeat walk_at "v"
  refine ⟨by rw [List.length_map, lettN_len]; exact Nat.le_trans allS_len.1 (by have := R.len; omega), ?_⟩
  refine wK_map (enc := fun j : Nat => D.int (j : Int)) (g := fun j : Nat => .int (j : Int)) (fun j => decide (savN rows j ≤ opn rows k)) rfl (lettN (allS rows rule).1) [] (fun j hj => ?_) ?_
  · have hjl : j < rows.length := taken_lt (fun k hk => by simpa [upto] using hk) (mem_lettN.mp hj)
    have ej : rows[j]? = some rows[j] := List.getElem?_eq_getElem hjl
    refine ⟨_, rfl, ?_⟩
    repeat walk_at "v"
    refine ⟨⟨_, rfl⟩, ?_⟩
    repeat walk_at "v"
    refine wC_pure (ses_saving ej) (pure_ses2 _ _) ?_
    repeat walk_at "v"
    unfold savN opn
    rw [ej, ek]
    exact ⟨rfl, rfl, fun _ => e_var (by rfl) ⟨rfl, rfl⟩⟩
  · repeat walk_at "v"
    exact frz_pure (by simp [D.pure, pure_ints])
end MM
set_option maxRecDepth 100000
set_option maxHeartbeats 1000000
namespace MM
open PySem PySem.Spec PyProof.Rows L2
local instance tab_Mp14 : Tabl := tab0
local macro_rules | `(tactic| walk_at "w") => `(tactic| with_reducible first
  | refine e_var (by with_unfolding_all rfl) ?_ | refine e_c ?_ | refine e_m2 ?_ | refine e_m1 ?_ | refine e_new ?_ | refine e_ch ?_ | refine e_and ?_ | refine e_or ?_ | refine e_not ?_ | refine e_if ?_ | refine e_tup ?_ | refine e_lst ?_ | refine e_sl ?_ | refine e_app ?_
  | refine e_callR ?_ | refine e_call ?_ | refine e_comp ?_ | refine t_b1 ?_ | refine t_tr ?_ | refine t_an ?_ | refine t_or ?_ | refine t_no ?_ | refine t_true ?_ | refine a_nil ?_ | refine a_cons ?_ | refine a_pick ?_ | refine o_no ?_ | refine o_so ?_
  | refine s_nil ?_ | refine s_retn ?_ | refine s_brk ?_ | refine s_cnt ?_ | refine s_seq ?_ | refine s_set ?_ | refine s_expr ?_ | refine s_ret ?_ | refine s_if ?_ | refine s_asg ?_ | refine s_par ?_ | refine s_sub ?_ | refine f_fn ?_
  | refine n_then ?_ | refine n_thenr ?_ | refine n_thenb ?_ | refine n_thenc ?_ | refine n_endr ?_ | refine n_endn ?_ | refine n_turn ?_ | refine n_turnc ?_ | refine n_turnb ?_ | refine n_turnr ?_ | refine i_seq ?_ | refine i_zip ?_ | refine i_enm ?_ | refine i_rg1 ?_ | refine i_rg2 ?_
  | refine b_t ?_ | refine b_f ?_ | refine v_addI ?_ | refine v_sub ?_ | refine v_some ?_
  | refine v_mod (by first | assumption | decide | omega) ?_
  | refine v_div (by first | assumption | decide | omega) ?_
  | refine v_ix (by with_unfolding_all rfl) (by with_unfolding_all rfl) (by with_unfolding_all rfl) ?_
  | refine v_tupl (by with_unfolding_all rfl) ?_ | refine v_list (by with_unfolding_all rfl) ?_ | refine v_len (by with_unfolding_all rfl) (by with_unfolding_all rfl) ?_
  | refine v_mul (by first | assumption | exact okM_l (by decide) (by decide) | exact okM_r (by decide) (by decide) | exact okM_l (by omega) (by omega) | exact okM_r (by omega) (by omega)) ?_
  | refine v_eqI ?_ | refine v_neI ?_ | refine v_mk (by with_unfolding_all rfl) ?_
  | refine Exists.intro _ (And.intro (by with_unfolding_all rfl) ?_)
  | refine And.intro (by first | assumption | (with_unfolding_all exact Nat.le_of_ble_eq_true rfl) | (with_unfolding_all decide) | (with_unfolding_all rfl)) ?_
  | refine Exists.intro _ (Exists.intro _ (Exists.intro _ (And.intro (by with_unfolding_all rfl) (And.intro (by with_unfolding_all rfl) (And.intro (by with_unfolding_all rfl) ?_)))))
  | refine Exists.intro _ (Exists.intro _ (Exists.intro _ (Exists.intro _ (And.intro (by with_unfolding_all rfl) (And.intro (by with_unfolding_all rfl) (And.intro (by with_unfolding_all rfl) (And.intro (by with_unfolding_all rfl) ?_)))))))
  | refine b_eq (z := true) (by with_unfolding_all rfl) ?_ | refine b_eq (z := false) (by with_unfolding_all rfl) ?_)
local macro_rules | `(tactic| walk_at "v") => `(tactic| with_reducible first
  | walk_at "w" | refine e_recv ?_ | refine e_makeR ?_ | refine s_attr ?_ | refine e_rgL1 ?_)
theorem v_notInI {j : Nat} {l : List Nat} {S : Store} {R : D → Prop} (q : R (.bl (decide (j ∉ l)))) : wV (fNotIn S (.int (j : Int)) (.tup (l.map fun k : Nat => .int (k : Int)))) R := by
  refine ⟨_, ?_, q⟩
  unfold fNotIn inD
  have e : inV (V.int (j : Int)) (l.map fun k : Nat => V.int (k : Int)) = decide (j ∈ l) := by
    unfold inV
    rw [List.any_map, Bool.eq_iff_iff, List.any_eq_true, decide_eq_true_eq]
    refine ⟨fun ⟨x, hx, e⟩ => ?_, fun h => ⟨j, h, show ((j : Int) == (j : Int)) = true from beq_self_eq_true _⟩⟩
    have e : ((x : Int) == (j : Int)) = true := e
    have := beq_iff_eq.mp e
    have : x = j := by exact_mod_cast this
    rw [← this]; exact hx
  have e2 : ((seqOf S (.tup (l.map fun k : Nat => .int (k : Int)))).bind fun xs => xs.mapM flatD) = some (l.map fun k : Nat => V.int (k : Int)) := mapM_flatI (f := fun k : Nat => (k : Int)) l
  split
  · rename_i h; cases h
  · rw [show flatD (.int (j : Int)) = some (V.int (j : Int)) from rfl, e2]
    show some (D.bl (!inV (V.int (j : Int)) (l.map fun k : Nat => V.int (k : Int)))) = _
    rw [e, decide_not]
def leftL (n k : Nat) : List Nat := (upto n).filter fun j => decide (j ≠ k)
theorem left_lt {n k : Nat} : ∀ j ∈ leftL n k, j < n := fun j hj => by simpa [upto] using (List.mem_filter.mp hj).1
theorem left_up {n k : Nat} : (leftL n k).Pairwise (· < ·) := (by unfold upto; exact List.pairwise_lt_range : (upto n).Pairwise (· < ·)).sublist List.filter_sublist
theorem left_len {n k : Nat} : (leftL n k).length ≤ n := Nat.le_trans (List.length_filter_le _ _) (by simp [upto])
end MM
set_option maxRecDepth 100000
set_option maxHeartbeats 1000000
namespace MM
open PySem PySem.Spec PyProof.Rows L2
local instance tab_Mp15 : Tabl := tab0
local macro_rules | `(tactic| walk_at "w") => `(tactic| with_reducible first
  | refine e_var (by with_unfolding_all rfl) ?_ | refine e_c ?_ | refine e_m2 ?_ | refine e_m1 ?_ | refine e_new ?_ | refine e_ch ?_ | refine e_and ?_ | refine e_or ?_ | refine e_not ?_ | refine e_if ?_ | refine e_tup ?_ | refine e_lst ?_ | refine e_sl ?_ | refine e_app ?_
  | refine e_callR ?_ | refine e_call ?_ | refine e_comp ?_ | refine t_b1 ?_ | refine t_tr ?_ | refine t_an ?_ | refine t_or ?_ | refine t_no ?_ | refine t_true ?_ | refine a_nil ?_ | refine a_cons ?_ | refine a_pick ?_ | refine o_no ?_ | refine o_so ?_
  | refine s_nil ?_ | refine s_retn ?_ | refine s_brk ?_ | refine s_cnt ?_ | refine s_seq ?_ | refine s_set ?_ | refine s_expr ?_ | refine s_ret ?_ | refine s_if ?_ | refine s_asg ?_ | refine s_par ?_ | refine s_sub ?_ | refine f_fn ?_
  | refine n_then ?_ | refine n_thenr ?_ | refine n_thenb ?_ | refine n_thenc ?_ | refine n_endr ?_ | refine n_endn ?_ | refine n_turn ?_ | refine n_turnc ?_ | refine n_turnb ?_ | refine n_turnr ?_ | refine i_seq ?_ | refine i_zip ?_ | refine i_enm ?_ | refine i_rg1 ?_ | refine i_rg2 ?_
  | refine b_t ?_ | refine b_f ?_ | refine v_addI ?_ | refine v_sub ?_ | refine v_some ?_
  | refine v_mod (by first | assumption | decide | omega) ?_
  | refine v_div (by first | assumption | decide | omega) ?_
  | refine v_ix (by with_unfolding_all rfl) (by with_unfolding_all rfl) (by with_unfolding_all rfl) ?_
  | refine v_tupl (by with_unfolding_all rfl) ?_ | refine v_list (by with_unfolding_all rfl) ?_ | refine v_len (by with_unfolding_all rfl) (by with_unfolding_all rfl) ?_
  | refine v_mul (by first | assumption | exact okM_l (by decide) (by decide) | exact okM_r (by decide) (by decide) | exact okM_l (by omega) (by omega) | exact okM_r (by omega) (by omega)) ?_
  | refine v_eqI ?_ | refine v_neI ?_ | refine v_mk (by with_unfolding_all rfl) ?_
  | refine Exists.intro _ (And.intro (by with_unfolding_all rfl) ?_)
  | refine And.intro (by first | assumption | (with_unfolding_all exact Nat.le_of_ble_eq_true rfl) | (with_unfolding_all decide) | (with_unfolding_all rfl)) ?_
  | refine Exists.intro _ (Exists.intro _ (Exists.intro _ (And.intro (by with_unfolding_all rfl) (And.intro (by with_unfolding_all rfl) (And.intro (by with_unfolding_all rfl) ?_)))))
  | refine Exists.intro _ (Exists.intro _ (Exists.intro _ (Exists.intro _ (And.intro (by with_unfolding_all rfl) (And.intro (by with_unfolding_all rfl) (And.intro (by with_unfolding_all rfl) (And.intro (by with_unfolding_all rfl) ?_)))))))
  | refine b_eq (z := true) (by with_unfolding_all rfl) ?_ | refine b_eq (z := false) (by with_unfolding_all rfl) ?_)
local macro_rules | `(tactic| walk_at "v") => `(tactic| with_reducible first
  | walk_at "w" | refine e_recv ?_ | refine e_makeR ?_ | refine s_attr ?_ | refine e_rgL1 ?_)
/-- who is taken without k -/
def takenW (rows : List Row) (rule : Str) (k : Nat) : List Nat := lettN (couS rows rule (leftL rows.length k)).1
def takenA (rows : List Row) (rule : Str) : List Nat := lettN (allS rows rule).1
def gainL (rows : List Row) (rule : Str) (k : Nat) : List Nat := (takenW rows rule k).filter fun j => decide (j ∉ takenA rows rule)
def loseL (rows : List Row) (rule : Str) (k : Nat) : List Nat := (takenA rows rule).filter fun j => decide (j ∉ takenW rows rule k) && decide (j ≠ k)
def natsD (l : List Nat) : D := .tup (l.map fun j : Nat => .int (j : Int))
theorem without_ok {d : D} {rows : List Row} {rule : Str} {k : Nat} (hd : D.ok 13 d = true) (t : tupD d = RT rows) (hr : strOkD rule = true) (R : RwOk rows) (hk : k < rows.length) : Rg c_without [d, .str rule, .int k] (.tup [natsD (gainL rows rule k), natsD (loseL rows rule k)]) := by
  unfold Rg c_without
  repeat walk_at "v"
  refine ⟨⟨rfl, pures1 (ok_pure hd)⟩, ?_⟩
  refine (ses_init hd t).mono fun x S ⟨e, r, hf, er⟩ => ?_
  subst er
  refine ⟨e, _, hf, ?_⟩
  repeat walk_at "v"
  refine ⟨⟨_, rfl⟩, ?_⟩
  repeat walk_at "v"
  refine wC_pure (ses_check hk) (pure_ses2 _ _) ?_
  repeat walk_at "v"
  refine ⟨⟨_, rfl⟩, ?_⟩
  repeat walk_at "v"
  refine wC_pure (ses_numbers R.len) (pures1 (pure_ses rows)) ?_
  repeat walk_at "v"
  have hl := R.len
  refine ⟨by rw [List.length_map]; simp [upto]; omega, ?_⟩
  refine wK_map (enc := fun j : Nat => D.int (j : Int)) (g := fun j : Nat => .int (j : Int)) (fun j => decide (j ≠ k)) rfl (upto rows.length) [] (fun j hj => ?_) ?_
  · refine ⟨_, rfl, ?_⟩
    repeat walk_at "v"
    refine ⟨by rw [← decide_not]; exact decide_eq_decide.mpr (by omega), rfl, fun _ => e_var (by rfl) ⟨rfl, rfl⟩⟩
  · rw [List.nil_append]
    show thenS _ _ Fl.nx (List.set _ 5 (some (D.lst ((leftL rows.length k).map fun j : Nat => D.int (j : Int))))) _
    repeat walk_at "v"
    refine wC_pure (accepted_ok hd t hr R) (by simp [D.pures, ok_pure hd, D.pure]) ?_
    repeat walk_at "v"
    refine ⟨⟨rfl, by simp [D.pures, D.pure, pure_ses, pure_ints]⟩, ?_⟩
    refine (init_ok hr left_lt left_up (Nat.lt_of_le_of_lt left_len R.len) R.nm).mono fun x S ⟨e, r, hf, er⟩ => ?_
    subst er
    refine ⟨e, _, hf, ?_⟩
    repeat walk_at "v"
    refine ⟨⟨_, rfl⟩, ?_⟩
    repeat walk_at "v"
    have lw : (couS rows rule (leftL rows.length k)).1.length < 64 := by
      have h := (run_inv (rows := rows) (rule := rule) (lineL rows rule (leftL rows.length k))).2.2.1
      rw [line_perm.length_eq] at h
      exact Nat.lt_of_le_of_lt (Nat.le_trans h left_len) R.len
    refine wC_pure (let_by_ok lw) (pures1 (pure_cou _ _ _)) ?_
    rw [letD_eq, letD_eq]
    repeat walk_at "v"
    refine ⟨by rw [List.length_map, lettN_len]; exact Nat.le_trans allS_len.1 (by omega), ?_⟩
    refine wK_map (enc := fun j : Nat => D.int (j : Int)) (g := fun j : Nat => .int (j : Int)) (fun j => decide (j ∉ takenW rows rule k) && decide (j ≠ k)) rfl (lettN (allS rows rule).1) [] (fun j hj => ?_) ?_
    · refine ⟨_, rfl, ?_⟩
      repeat walk_at "v"
      refine v_notInI ?_
      refine ⟨_, rfl, ?_⟩
      show if decide (j ∉ takenW rows rule k) = true then _ else _
      cases hw : decide (j ∉ takenW rows rule k) with
      | false =>
        refine b_f ?_
        exact ⟨rfl, rfl, fun z => by cases z⟩
      | true =>
        refine b_t ?_
        repeat walk_at "v"
        refine ⟨by rw [← decide_not]; exact decide_eq_decide.mpr (by omega), rfl, fun _ => e_var (by rfl) ⟨rfl, rfl⟩⟩
    · repeat walk_at "v"
      refine ⟨by rw [List.length_map, lettN_len]; omega, ?_⟩
      refine wK_map (enc := fun j : Nat => D.int (j : Int)) (g := fun j : Nat => .int (j : Int)) (fun j => decide (j ∉ takenA rows rule)) rfl (takenW rows rule k) [] (fun j hj => ?_) ?_
      · refine ⟨_, rfl, ?_⟩
        repeat walk_at "v"
        refine v_notInI ?_
        repeat walk_at "v"
        exact fun _ => e_var (by rfl) ⟨rfl, rfl⟩
      · repeat walk_at "v"
        refine frz_pure ?_
        simp [D.pure, D.pures, pure_ints]
end MM
set_option maxRecDepth 100000
set_option maxHeartbeats 1000000
namespace MM
open PySem PySem.Spec PyProof.Rows L2
local instance tab_Mp16 : Tabl := tab0
local macro_rules | `(tactic| walk_at "w") => `(tactic| with_reducible first
  | refine e_var (by with_unfolding_all rfl) ?_ | refine e_c ?_ | refine e_m2 ?_ | refine e_m1 ?_ | refine e_new ?_ | refine e_ch ?_ | refine e_and ?_ | refine e_or ?_ | refine e_not ?_ | refine e_if ?_ | refine e_tup ?_ | refine e_lst ?_ | refine e_sl ?_ | refine e_app ?_
  | refine e_callR ?_ | refine e_call ?_ | refine e_comp ?_ | refine t_b1 ?_ | refine t_tr ?_ | refine t_an ?_ | refine t_or ?_ | refine t_no ?_ | refine t_true ?_ | refine a_nil ?_ | refine a_cons ?_ | refine a_pick ?_ | refine o_no ?_ | refine o_so ?_
  | refine s_nil ?_ | refine s_retn ?_ | refine s_brk ?_ | refine s_cnt ?_ | refine s_seq ?_ | refine s_set ?_ | refine s_expr ?_ | refine s_ret ?_ | refine s_if ?_ | refine s_asg ?_ | refine s_par ?_ | refine s_sub ?_ | refine f_fn ?_
  | refine n_then ?_ | refine n_thenr ?_ | refine n_thenb ?_ | refine n_thenc ?_ | refine n_endr ?_ | refine n_endn ?_ | refine n_turn ?_ | refine n_turnc ?_ | refine n_turnb ?_ | refine n_turnr ?_ | refine i_seq ?_ | refine i_zip ?_ | refine i_enm ?_ | refine i_rg1 ?_ | refine i_rg2 ?_
  | refine b_t ?_ | refine b_f ?_ | refine v_addI ?_ | refine v_sub ?_ | refine v_some ?_
  | refine v_mod (by first | assumption | decide | omega) ?_
  | refine v_div (by first | assumption | decide | omega) ?_
  | refine v_ix (by with_unfolding_all rfl) (by with_unfolding_all rfl) (by with_unfolding_all rfl) ?_
  | refine v_tupl (by with_unfolding_all rfl) ?_ | refine v_list (by with_unfolding_all rfl) ?_ | refine v_len (by with_unfolding_all rfl) (by with_unfolding_all rfl) ?_
  | refine v_mul (by first | assumption | exact okM_l (by decide) (by decide) | exact okM_r (by decide) (by decide) | exact okM_l (by omega) (by omega) | exact okM_r (by omega) (by omega)) ?_
  | refine v_eqI ?_ | refine v_neI ?_ | refine v_mk (by with_unfolding_all rfl) ?_
  | refine Exists.intro _ (And.intro (by with_unfolding_all rfl) ?_)
  | refine And.intro (by first | assumption | (with_unfolding_all exact Nat.le_of_ble_eq_true rfl) | (with_unfolding_all decide) | (with_unfolding_all rfl)) ?_
  | refine Exists.intro _ (Exists.intro _ (Exists.intro _ (And.intro (by with_unfolding_all rfl) (And.intro (by with_unfolding_all rfl) (And.intro (by with_unfolding_all rfl) ?_)))))
  | refine Exists.intro _ (Exists.intro _ (Exists.intro _ (Exists.intro _ (And.intro (by with_unfolding_all rfl) (And.intro (by with_unfolding_all rfl) (And.intro (by with_unfolding_all rfl) (And.intro (by with_unfolding_all rfl) ?_)))))))
  | refine b_eq (z := true) (by with_unfolding_all rfl) ?_ | refine b_eq (z := false) (by with_unfolding_all rfl) ?_)
local macro_rules | `(tactic| walk_at "v") => `(tactic| with_reducible first
  | walk_at "w" | refine e_recv ?_ | refine e_makeR ?_ | refine s_attr ?_ | refine e_rgL1 ?_)
section
variable {α : Type} {J : Its} {e0 : MEnv} {p : PTg} {tt : MT} {me : M} {S : Store}
theorem loopN_map {enc g : α → D} (c : α → Bool) (hs : still S J = true) : ∀ (l : List α) (acc : List D),
    (∀ x ∈ l, ∃ e1, p (enc x) e0 = some e1 ∧ wT tt e1 S fun k S1 => k = c x ∧ S1 = S ∧ (c x = true → wE me e1 S fun y S2 => y = g x ∧ S2 = S)) → acc.length + l.length ≤ 16000 → loopN J e0 p tt me (l.map enc) S acc = some (acc ++ (l.filter c).map g, S)
  | [], acc, _, _ => by
    show (if still S J = true then some (acc, S) else none) = _
    rw [if_pos hs]
    simp
  | x :: l, acc, h, hz => by
    obtain ⟨e1, h1, k, S1, h2, ek, eS, h3⟩ := h x (by simp)
    rw [ek, eS] at h2
    show (if still S J = true then (p (enc x) e0).bind _ else none) = _
    rw [if_pos hs, h1]
    show ((tt e1 S).bind fun b => _) = _
    rw [h2]
    simp only [List.length_cons] at hz
    cases hc : c x with
    | true =>
      obtain ⟨y, S2, h4, ey, e2⟩ := h3 hc
      rw [ey, e2] at h4
      show ((me e1 S).bind fun y => _) = _
      rw [h4]
      show (if acc.length ≤ 16000 then loopN J e0 p tt me (l.map enc) S (acc ++ [g x]) else none) = _
      rw [if_pos (by omega), loopN_map c hs l _ (fun x hx => h x (by simp [hx])) (by simp; omega)]
      simp [List.filter_cons, hc]
    | false =>
      show loopN J e0 p tt me (l.map enc) S acc = _
      rw [loopN_map c hs l _ (fun x hx => h x (by simp [hx])) (by omega)]
      simp [List.filter_cons, hc]
theorem loopO_map {enc : α → D} {inn : MEnv → Store → List D → Option (List D × Store)} (h' : α → List D) (n : Nat) (hs : still S J = true) : ∀ (l : List α) (acc : List D),
    (∀ x ∈ l, ∃ e1, p (enc x) e0 = some e1 ∧ tt e1 S = some (true, S) ∧ ∀ acc, acc.length ≤ n → inn e1 S acc = some (acc ++ h' x, S)) → (∀ (a b : List α), a ++ b = l → acc.length + (a.flatMap h').length ≤ n) → loopO J e0 p tt inn (l.map enc) S acc = some (acc ++ l.flatMap h', S)
  | [], acc, _, _ => by
    show (if still S J = true then some (acc, S) else none) = _
    rw [if_pos hs]
    simp
  | x :: l, acc, h, hz => by
    obtain ⟨e1, h1, h2, h3⟩ := h x (by simp)
    show (if still S J = true then (p (enc x) e0).bind _ else none) = _
    rw [if_pos hs, h1]
    show ((tt e1 S).bind fun b => _) = _
    rw [h2]
    show ((inn e1 S acc).bind fun r => loopO J e0 p tt inn (l.map enc) r.2 r.1) = _
    have h0 := hz [] (x :: l) rfl
    simp at h0
    rw [h3 acc h0]
    show loopO J e0 p tt inn (l.map enc) S (acc ++ h' x) = _
    rw [loopO_map h' n hs l _ (fun y hy => h y (by simp [hy])) fun a b e => by
      have := hz (x :: a) b (by rw [List.cons_append, e])
      simp at this ⊢
      omega]
    simp
theorem e_comp2 {e : MEnv} {mi mi1 : MI} {vs vs1 : List Nat} {p1 : PTg} {tt1 : MT} {Q : D → Store → Prop} (h : wI mi e S fun J S1 => ∃ r, loopO J (wipeE e vs) p tt (innC mi1 vs1 p1 tt1 me) J.items S1 [] = some (r, S1) ∧ Q (.lst r) S1) : wE (mComp2 mi vs p tt mi1 vs1 p1 tt1 me) e S Q := by
  obtain ⟨J, S1, h1, r, h2, q⟩ := h
  refine ⟨_, S1, ?_, q⟩
  unfold mComp2
  rw [h1]
  show (loopO J (wipeE e vs) p tt (innC mi1 vs1 p1 tt1 me) J.items S1 []).map _ = _
  rw [h2]
  rfl
end
end MM
set_option maxRecDepth 100000
set_option maxHeartbeats 1000000
namespace MM
open PySem PySem.Spec PyProof.Rows L2
local instance tab_Mp17 : Tabl := tab0
local macro_rules | `(tactic| walk_at "w") => `(tactic| with_reducible first
  | refine e_var (by with_unfolding_all rfl) ?_ | refine e_c ?_ | refine e_m2 ?_ | refine e_m1 ?_ | refine e_new ?_ | refine e_ch ?_ | refine e_and ?_ | refine e_or ?_ | refine e_not ?_ | refine e_if ?_ | refine e_tup ?_ | refine e_lst ?_ | refine e_sl ?_ | refine e_app ?_
  | refine e_callR ?_ | refine e_call ?_ | refine e_comp ?_ | refine t_b1 ?_ | refine t_tr ?_ | refine t_an ?_ | refine t_or ?_ | refine t_no ?_ | refine t_true ?_ | refine a_nil ?_ | refine a_cons ?_ | refine a_pick ?_ | refine o_no ?_ | refine o_so ?_
  | refine s_nil ?_ | refine s_retn ?_ | refine s_brk ?_ | refine s_cnt ?_ | refine s_seq ?_ | refine s_set ?_ | refine s_expr ?_ | refine s_ret ?_ | refine s_if ?_ | refine s_asg ?_ | refine s_par ?_ | refine s_sub ?_ | refine f_fn ?_
  | refine n_then ?_ | refine n_thenr ?_ | refine n_thenb ?_ | refine n_thenc ?_ | refine n_endr ?_ | refine n_endn ?_ | refine n_turn ?_ | refine n_turnc ?_ | refine n_turnb ?_ | refine n_turnr ?_ | refine i_seq ?_ | refine i_zip ?_ | refine i_enm ?_ | refine i_rg1 ?_ | refine i_rg2 ?_
  | refine b_t ?_ | refine b_f ?_ | refine v_addI ?_ | refine v_sub ?_ | refine v_some ?_
  | refine v_mod (by first | assumption | decide | omega) ?_
  | refine v_div (by first | assumption | decide | omega) ?_
  | refine v_ix (by with_unfolding_all rfl) (by with_unfolding_all rfl) (by with_unfolding_all rfl) ?_
  | refine v_tupl (by with_unfolding_all rfl) ?_ | refine v_list (by with_unfolding_all rfl) ?_ | refine v_len (by with_unfolding_all rfl) (by with_unfolding_all rfl) ?_
  | refine v_mul (by first | assumption | exact okM_l (by decide) (by decide) | exact okM_r (by decide) (by decide) | exact okM_l (by omega) (by omega) | exact okM_r (by omega) (by omega)) ?_
  | refine v_eqI ?_ | refine v_neI ?_ | refine v_mk (by with_unfolding_all rfl) ?_
  | refine Exists.intro _ (And.intro (by with_unfolding_all rfl) ?_)
  | refine And.intro (by first | assumption | (with_unfolding_all exact Nat.le_of_ble_eq_true rfl) | (with_unfolding_all decide) | (with_unfolding_all rfl)) ?_
  | refine Exists.intro _ (Exists.intro _ (Exists.intro _ (And.intro (by with_unfolding_all rfl) (And.intro (by with_unfolding_all rfl) (And.intro (by with_unfolding_all rfl) ?_)))))
  | refine Exists.intro _ (Exists.intro _ (Exists.intro _ (Exists.intro _ (And.intro (by with_unfolding_all rfl) (And.intro (by with_unfolding_all rfl) (And.intro (by with_unfolding_all rfl) (And.intro (by with_unfolding_all rfl) ?_)))))))
  | refine b_eq (z := true) (by with_unfolding_all rfl) ?_ | refine b_eq (z := false) (by with_unfolding_all rfl) ?_)
local macro_rules | `(tactic| walk_at "v") => `(tactic| with_reducible first
  | walk_at "w" | refine e_recv ?_ | refine e_makeR ?_ | refine s_attr ?_ | refine e_rgL1 ?_)
theorem v_notInL {j : Nat} {l : List Nat} {S : Store} {R : D → Prop} (q : R (.bl (decide (j ∉ l)))) : wV (fNotIn S (.int (j : Int)) (.lst (l.map fun k : Nat => .int (k : Int)))) R := by
  obtain ⟨d, h1, h2⟩ := v_notInI (j := j) (l := l) (S := S) q
  refine ⟨d, ?_, h2⟩
  rw [← h1]
  rfl
/-- one of two is between for the other -/
def crossAt (rows : List Row) (i j : Nat) : Bool := match rows[i]?, rows[j]? with
  | some ri, some rj => amid ri rj || amid rj ri
  | _, _ => false
def crossedL (rows : List Row) (T : List Nat) : List Nat := T.flatMap fun i => (T.filter fun j => crossAt rows i j).map fun _ => i
def aloneL (rows : List Row) (rule : Str) : List Nat := (takenA rows rule).filter fun i => decide (i ∉ crossedL rows (takenA rows rule))
theorem flatMap_len {α β : Type} {f : α → List β} {n : Nat} : ∀ {l : List α}, (∀ x ∈ l, (f x).length ≤ n) → (l.flatMap f).length ≤ l.length * n
  | [], _ => by simp
  | x :: l, h => by
    have h1 := h x (by simp)
    have h2 := flatMap_len (f := f) (n := n) (l := l) fun y hy => h y (by simp [hy])
    rw [List.flatMap_cons, List.length_append, List.length_cons, Nat.add_mul]
    omega
theorem crossed_len {rows : List Row} {T a b : List Nat} (h : a ++ b = T) (hl : T.length < 64) : (a.flatMap fun i => (T.filter fun j => crossAt rows i j).map fun _ => i).length ≤ 4000 := by
  have h1 := flatMap_len (f := fun i => (T.filter fun j => crossAt rows i j).map fun _ => i) (n := 63) (l := a) fun x _ => by
    rw [List.length_map]
    exact Nat.le_trans (List.length_filter_le _ _) (by omega)
  have h2 : a.length ≤ 63 := by have := congrArg List.length h; simp at this; omega
  omega
theorem taken_len {rows : List Row} {rule : Str} : (takenA rows rule).length ≤ rows.length := by
  unfold takenA
  rw [lettN_len]
  exact allS_len.1
theorem taken_at {rows : List Row} {rule : Str} {j : Nat} (h : j ∈ takenA rows rule) : j < rows.length := taken_lt (fun k hk => by simpa [upto] using hk) (mem_lettN.mp h)
theorem alone_ok {d : D} {rows : List Row} {rule : Str} (hd : D.ok 13 d = true) (t : tupD d = RT rows) (hr : strOkD rule = true) (R : RwOk rows) : Rg c_alone [d, .str rule] (natsD (aloneL rows rule)) := by
  have hl := R.len
  have hT := taken_len (rows := rows) (rule := rule)
  unfold Rg c_alone
  repeat walk_at "v"
  refine ⟨⟨rfl, pures1 (ok_pure hd)⟩, ?_⟩
  refine (ses_init hd t).mono fun x S ⟨e, r, hf, er⟩ => ?_
  subst er
  refine ⟨e, _, hf, ?_⟩
  repeat walk_at "v"
  refine wC_pure (accepted_ok hd t hr R) (by simp [D.pures, ok_pure hd, D.pure]) ?_
  rw [letD_eq]
  show wA aNil _ _ _
  repeat walk_at "v"
  refine e_comp2 ?_
  repeat walk_at "v"
  refine ⟨(crossedL rows (takenA rows rule)).map fun j : Nat => .int (j : Int), ?_, ?_⟩
  · have h := loopO_map (J := ⟨(takenA rows rule).map fun j : Nat => D.int (j : Int), []⟩) (e0 := [some d, some (.str rule), some (SesD rows), some (natsD (takenA rows rule)), none, none, none]) (p := pN 5) (tt := tTrue) (S := []) (enc := fun j : Nat => D.int (j : Int))
      (inn := innC (iSeq (mVar 3)) [6] (pN 6) (tOr' (tTr (mCallR false c_Sessions_is_between 3 (aCons (mRecv (Str.ofString "Sessions") (mVar 2)) (aCons (mVar 5) (aCons (mVar 6) aNil))))) (tTr (mCallR false c_Sessions_is_between 3 (aCons (mRecv (Str.ofString "Sessions") (mVar 2)) (aCons (mVar 6) (aCons (mVar 5) aNil)))))) (mVar 5))
      (fun i => ((takenA rows rule).filter fun j => crossAt rows i j).map fun _ => D.int (i : Int)) 4000 rfl (takenA rows rule) [] (fun i hi => ?_) (fun a b e => ?_)
    · rw [List.nil_append] at h
      rw [show (crossedL rows (takenA rows rule)).map (fun j : Nat => D.int (j : Int)) = (takenA rows rule).flatMap fun i => ((takenA rows rule).filter fun j => crossAt rows i j).map fun _ => D.int (i : Int) from by
        unfold crossedL
        rw [List.map_flatMap]
        simp [Function.comp_def]]
      exact h
    · refine ⟨_, rfl, rfl, fun acc hacc => ?_⟩
      have hi2 := taken_at hi
      have ei : rows[i]? = some rows[i] := List.getElem?_eq_getElem hi2
      have h2 := loopN_map (J := ⟨(takenA rows rule).map fun j : Nat => D.int (j : Int), []⟩) (e0 := [some d, some (.str rule), some (SesD rows), some (natsD (takenA rows rule)), none, some (.int (i : Int)), none]) (p := pN 6) (S := []) (enc := fun j : Nat => D.int (j : Int)) (g := fun _ => D.int (i : Int))
        (tt := (tOr' (tTr (mCallR false c_Sessions_is_between 3 (aCons (mRecv (Str.ofString "Sessions") (mVar 2)) (aCons (mVar 5) (aCons (mVar 6) aNil))))) (tTr (mCallR false c_Sessions_is_between 3 (aCons (mRecv (Str.ofString "Sessions") (mVar 2)) (aCons (mVar 6) (aCons (mVar 5) aNil))))))) (me := mVar 5)
        (fun j => crossAt rows i j) rfl (takenA rows rule) acc (fun j hj => ?_) (by omega)
      · exact h2
      · have hj2 := taken_at hj
        have ej : rows[j]? = some rows[j] := List.getElem?_eq_getElem hj2
        refine ⟨_, rfl, ?_⟩
        repeat walk_at "v"
        refine ⟨⟨_, rfl⟩, ?_⟩
        repeat walk_at "v"
        refine wC_pure (ses_is_between ei ej) (pure_ses3 _ _ _) ?_
        repeat walk_at "v"
        unfold crossAt
        rw [ei, ej]
        dsimp only
        cases h1 : amid rows[i] rows[j] with
        | true =>
          refine b_t ?_
          exact ⟨rfl, rfl, fun _ => e_var (by rfl) ⟨rfl, rfl⟩⟩
        | false =>
          refine b_f ?_
          repeat walk_at "v"
          refine ⟨⟨_, rfl⟩, ?_⟩
          repeat walk_at "v"
          refine wC_pure (ses_is_between ej ei) (pure_ses3 _ _ _) ?_
          repeat walk_at "v"
          exact fun _ => e_var (by rfl) ⟨rfl, rfl⟩
    · have := crossed_len (rows := rows) e (by omega)
      have e2 : (a.flatMap fun i => ((takenA rows rule).filter fun j => crossAt rows i j).map fun _ => D.int (i : Int)).length = (a.flatMap fun i => ((takenA rows rule).filter fun j => crossAt rows i j).map fun _ => i).length := by
        simp [List.length_flatMap]
      rw [e2]
      simpa using this
  · repeat walk_at "v"
    refine ⟨by rw [List.length_map]; show (takenA rows rule).length ≤ 4000; omega, ?_⟩
    refine wK_map (enc := fun j : Nat => D.int (j : Int)) (g := fun j : Nat => .int (j : Int)) (fun j => decide (j ∉ crossedL rows (takenA rows rule))) rfl (takenA rows rule) [] (fun j hj => ?_) ?_
    · refine ⟨_, rfl, ?_⟩
      repeat walk_at "v"
      refine v_notInL ?_
      repeat walk_at "v"
      exact fun _ => e_var (by rfl) ⟨rfl, rfl⟩
    · repeat walk_at "v"
      exact frz_pure (by simp [D.pure, pure_ints])
end MM
set_option maxRecDepth 100000
set_option maxHeartbeats 1000000
namespace MM
open PySem PySem.Spec PyProof.Rows L2
local instance tab_Mp18 : Tabl := tab0
local macro_rules | `(tactic| walk_at "w") => `(tactic| with_reducible first
  | refine e_var (by with_unfolding_all rfl) ?_ | refine e_c ?_ | refine e_m2 ?_ | refine e_m1 ?_ | refine e_new ?_ | refine e_ch ?_ | refine e_and ?_ | refine e_or ?_ | refine e_not ?_ | refine e_if ?_ | refine e_tup ?_ | refine e_lst ?_ | refine e_sl ?_ | refine e_app ?_
  | refine e_callR ?_ | refine e_call ?_ | refine e_comp ?_ | refine t_b1 ?_ | refine t_tr ?_ | refine t_an ?_ | refine t_or ?_ | refine t_no ?_ | refine t_true ?_ | refine a_nil ?_ | refine a_cons ?_ | refine a_pick ?_ | refine o_no ?_ | refine o_so ?_
  | refine s_nil ?_ | refine s_retn ?_ | refine s_brk ?_ | refine s_cnt ?_ | refine s_seq ?_ | refine s_set ?_ | refine s_expr ?_ | refine s_ret ?_ | refine s_if ?_ | refine s_asg ?_ | refine s_par ?_ | refine s_sub ?_ | refine f_fn ?_
  | refine n_then ?_ | refine n_thenr ?_ | refine n_thenb ?_ | refine n_thenc ?_ | refine n_endr ?_ | refine n_endn ?_ | refine n_turn ?_ | refine n_turnc ?_ | refine n_turnb ?_ | refine n_turnr ?_ | refine i_seq ?_ | refine i_zip ?_ | refine i_enm ?_ | refine i_rg1 ?_ | refine i_rg2 ?_
  | refine b_t ?_ | refine b_f ?_ | refine v_addI ?_ | refine v_sub ?_ | refine v_some ?_
  | refine v_mod (by first | assumption | decide | omega) ?_
  | refine v_div (by first | assumption | decide | omega) ?_
  | refine v_ix (by with_unfolding_all rfl) (by with_unfolding_all rfl) (by with_unfolding_all rfl) ?_
  | refine v_tupl (by with_unfolding_all rfl) ?_ | refine v_list (by with_unfolding_all rfl) ?_ | refine v_len (by with_unfolding_all rfl) (by with_unfolding_all rfl) ?_
  | refine v_mul (by first | assumption | exact okM_l (by decide) (by decide) | exact okM_r (by decide) (by decide) | exact okM_l (by omega) (by omega) | exact okM_r (by omega) (by omega)) ?_
  | refine v_eqI ?_ | refine v_neI ?_ | refine v_mk (by with_unfolding_all rfl) ?_
  | refine Exists.intro _ (And.intro (by with_unfolding_all rfl) ?_)
  | refine And.intro (by first | assumption | (with_unfolding_all exact Nat.le_of_ble_eq_true rfl) | (with_unfolding_all decide) | (with_unfolding_all rfl)) ?_
  | refine Exists.intro _ (Exists.intro _ (Exists.intro _ (And.intro (by with_unfolding_all rfl) (And.intro (by with_unfolding_all rfl) (And.intro (by with_unfolding_all rfl) ?_)))))
  | refine Exists.intro _ (Exists.intro _ (Exists.intro _ (Exists.intro _ (And.intro (by with_unfolding_all rfl) (And.intro (by with_unfolding_all rfl) (And.intro (by with_unfolding_all rfl) (And.intro (by with_unfolding_all rfl) ?_)))))))
  | refine b_eq (z := true) (by with_unfolding_all rfl) ?_ | refine b_eq (z := false) (by with_unfolding_all rfl) ?_)
local macro_rules | `(tactic| walk_at "v") => `(tactic| with_reducible first
  | walk_at "w" | refine e_recv ?_ | refine e_makeR ?_ | refine s_attr ?_ | refine e_rgL1 ?_ | refine s_for ?_)
def amidAt (rows : List Row) (j k : Nat) : Bool := match rows[j]?, rows[k]? with
  | some rj, some rk => amid rj rk
  | _, _ => false
def betweenL (rows : List Row) (k : Nat) : List Nat := (upto rows.length).filter fun j => amidAt rows j k
theorem upto_len (n : Nat) : (upto n).length = n := by simp [upto]
theorem mem_upto {n k : Nat} : k ∈ upto n ↔ k < n := by simp [upto]
theorem upto_up (n : Nat) : (upto n).Pairwise (· < ·) := by unfold upto; exact List.pairwise_lt_range
theorem upto_succ (n : Nat) : upto (n + 1) = upto n ++ [n] := by unfold upto; exact List.range_succ
theorem between_len {rows : List Row} {k : Nat} : (betweenL rows k).length ≤ rows.length := Nat.le_trans (List.length_filter_le _ _) (by rw [upto_len]; exact Nat.le_refl _)
theorem get_at {rows : List Row} {k : Nat} (h : k < rows.length) : rows[k]? = some (rows[k]'h) := List.getElem?_eq_getElem h
theorem mem_between {rows : List Row} {k j : Nat} : j ∈ betweenL rows k ↔ j < rows.length ∧ amidAt rows j k = true := by
  unfold betweenL
  rw [List.mem_filter, mem_upto]
theorem pure_nats (l : List Nat) : D.pure (natsD l) = true := by simp [natsD, D.pure, pure_ints]
theorem ses_between {rows : List Row} {k : Nat} (hk : k < rows.length) (hl : rows.length < 64) : Rg c_Sessions_between [SesD rows, .int k] (natsD (betweenL rows k)) := by
  have ek := get_at hk
  unfold Rg c_Sessions_between
  repeat walk_at "v"
  refine ⟨⟨_, rfl⟩, ?_⟩
  repeat walk_at "v"
  refine wC_pure (ses_numbers hl) (pures1 (pure_ses rows)) ?_
  repeat walk_at "v"
  refine ⟨by rw [List.length_map, upto_len]; omega, ?_⟩
  refine wK_map (enc := fun j : Nat => D.int (j : Int)) (g := fun j : Nat => .int (j : Int)) (fun j => amidAt rows j k) rfl (upto rows.length) [] (fun j hj => ?_) ?_
  · have ej := get_at (mem_upto.mp hj)
    refine ⟨_, rfl, ?_⟩
    repeat walk_at "v"
    refine ⟨⟨_, rfl⟩, ?_⟩
    repeat walk_at "v"
    refine wC_pure (ses_is_between ej ek) (pure_ses3 _ _ _) ?_
    repeat walk_at "v"
    exact ⟨by unfold amidAt; rw [ej, ek], rfl, fun _ => e_var (by rfl) ⟨rfl, rfl⟩⟩
  · repeat walk_at "v"
    exact frz_pure (pure_nats _)
theorem between_for_ok {d : D} {rows : List Row} {k : Nat} (hd : D.ok 13 d = true) (t : tupD d = RT rows) (hl : rows.length < 64) (hk : k < rows.length) : Rg c_between_for [d, .int k] (natsD (betweenL rows k)) := by
  unfold Rg c_between_for
  repeat walk_at "v"
  refine ⟨⟨rfl, pures1 (ok_pure hd)⟩, ?_⟩
  refine (ses_init hd t).mono fun x S ⟨e, r, hf, er⟩ => ?_
  subst er
  refine ⟨e, _, hf, ?_⟩
  repeat walk_at "v"
  refine ⟨⟨_, rfl⟩, ?_⟩
  repeat walk_at "v"
  refine ⟨⟨_, rfl⟩, ?_⟩
  repeat walk_at "v"
  refine wC_pure (ses_check hk) (pure_ses2 _ _) ?_
  repeat walk_at "v"
  refine wC_pure (ses_between hk hl) (pure_ses2 _ _) ?_
  repeat walk_at "v"
  exact frz_pure (pure_nats _)
theorem shared_ok {d : D} {rows : List Row} {k j : Nat} {rk rj : Row} (hd : D.ok 13 d = true) (t : tupD d = RT rows) (hk : rows[k]? = some rk) (hj : rows[j]? = some rj) (hz : rk.2.2.length ≤ 4000) : Rg c_shared [d, .int k, .int j] (encN (commonL rk.2.2 rj.2.2)) := by
  have lk := (List.getElem?_eq_some_iff.mp hk).1
  have lj := (List.getElem?_eq_some_iff.mp hj).1
  unfold Rg c_shared
  repeat walk_at "v"
  refine ⟨⟨rfl, pures1 (ok_pure hd)⟩, ?_⟩
  refine (ses_init hd t).mono fun x S ⟨e, r, hf, er⟩ => ?_
  subst er
  refine ⟨e, _, hf, ?_⟩
  repeat walk_at "v"
  refine ⟨⟨_, rfl⟩, ?_⟩
  repeat walk_at "v"
  refine ⟨⟨_, rfl⟩, ?_⟩
  repeat walk_at "v"
  refine wC_pure (ses_check lk) (pure_ses2 _ _) ?_
  repeat walk_at "v"
  refine ⟨⟨_, rfl⟩, ?_⟩
  repeat walk_at "v"
  refine wC_pure (ses_check lj) (pure_ses2 _ _) ?_
  repeat walk_at "v"
  refine wC_pure (ses_common hk hj hz) (pure_ses3 _ _ _) ?_
  repeat walk_at "v"
  exact frz_pure (pure_encN _)
/-! sorted lists of pairs of numbers -/
theorem leP_key {β : Type} {x y : β} {a b c d : Int} : leP (x, keyP a b) (y, keyP c d) = (decide (a < c) || (decide (a = c) && decide (b ≤ d))) := by
  show (!(PyProof.Rows.lexLt itemOrd [.inl 1, .inl c, .inl 1, .inl d, .inl 0] [.inl 1, .inl a, .inl 1, .inl b, .inl 0])) = _
  have e : PyProof.Rows.lexLt itemOrd [.inl 1, .inl c, .inl 1, .inl d, .inl 0] [.inl 1, .inl a, .inl 1, .inl b, .inl 0] = (decide (c < a) || (!decide (a < c) && decide (d < b))) := by
    simp [PyProof.Rows.lexLt, itemOrd, itemLt]
  rw [e, Bool.eq_iff_iff]
  simp
  omega
def leQ (p q : Nat × Nat) : Bool := decide (p.1 < q.1) || (decide (p.1 = q.1) && decide (p.2 ≤ q.2))
def encP (p : Nat × Nat) : D := .tup [.int (p.1 : Int), .int (p.2 : Int)]
theorem leQ_key {β : Type} {x y : β} {p q : Nat × Nat} : leP (x, keyP p.1 p.2) (y, keyP q.1 q.2) = leQ p q := by
  rw [leP_key]
  unfold leQ
  rw [Bool.eq_iff_iff]
  simp
  omega
theorem sortQ_map {β : Type} (enc : Nat × Nat → β) (l : List (Nat × Nat)) : (isort leP ((l.map enc).zip (l.map fun p : Nat × Nat => keyP p.1 p.2))).map (·.1) = (isort leQ l).map enc := by
  have e : (l.map enc).zip (l.map fun p : Nat × Nat => keyP p.1 p.2) = l.map fun p => (enc p, keyP p.1 p.2) := by
    induction l with
    | nil => rfl
    | cons x l ih => simp [ih]
  rw [e, ← isort_map (fun p : Nat × Nat => (enc p, keyP p.1 p.2)) leQ leP (fun _ _ => leQ_key.symm), List.map_map]
  rfl
theorem v_sortQ {l : List (Nat × Nat)} {S : Store} {R : D → Prop} (hl : l.length ≤ 4000) (q : R (.lst ((isort leQ l).map encP))) : wV (fSortD S (.lst (l.map encP))) R := by
  refine ⟨_, ?_, q⟩
  unfold fSortD
  show (if (l.map encP).length ≤ 4000 then ((l.map encP).mapM (toPy S 60)).bind _ else none) = _
  rw [if_pos (by rw [List.length_map]; exact hl), show l.map encP = l.map fun p : Nat × Nat => D.tup [.int (p.1 : Int), .int (p.2 : Int)] from rfl, mapM_keys (fun p : Nat × Nat => (p.1 : Int)) (fun p => (p.2 : Int))]
  show (if okSort (l.map fun p : Nat × Nat => keyP (p.1 : Int) (p.2 : Int)) = true then _ else none) = _
  rw [if_pos (okSort_keys _ _ _)]
  show some (D.lst ((isort leP ((l.map encP).zip (l.map fun p : Nat × Nat => keyP p.1 p.2))).map (·.1))) = _
  rw [sortQ_map]
theorem leQ_total : PySem.W.TotalLe leQ where
  trans a b c h1 h2 := by
    unfold leQ at *
    simp at *
    omega
  total a b := by
    unfold leQ
    simp
    omega
theorem isortQ_perm (l : List (Nat × Nat)) : (isort leQ l).Perm l := by
  rw [isort_eq leQ_total]
  exact List.mergeSort_perm l leQ
theorem isortQ_sorted (l : List (Nat × Nat)) : (isort leQ l).Pairwise fun a b => leQ a b = true := by
  rw [isort_eq leQ_total]
  exact List.pairwise_mergeSort leQ_total.trans (fun a b => by rw [Bool.or_eq_true]; exact leQ_total.total a b) l
theorem sorted_ext {α : Type} {r : α → α → Prop} (anti : ∀ a b, r a b → r b a → a = b) : ∀ {a b : List α}, a.Pairwise r → b.Pairwise r → a.Perm b → a = b
  | [], b, _, _, p => p.nil_eq
  | x :: a, [], _, _, p => absurd p.length_eq (by simp)
  | x :: a, y :: b, h1, h2, p => by
    have hx : x ∈ y :: b := p.mem_iff.mp (by simp)
    have hy : y ∈ x :: a := p.mem_iff.mpr (by simp)
    have e : x = y := by
      rcases List.mem_cons.mp hx with h | h
      · exact h
      · rcases List.mem_cons.mp hy with h' | h'
        · exact h'.symm
        · exact anti _ _ ((List.pairwise_cons.mp h1).1 y h') ((List.pairwise_cons.mp h2).1 x h)
    subst e
    rw [sorted_ext anti (List.pairwise_cons.mp h1).2 (List.pairwise_cons.mp h2).2 (List.perm_cons x |>.mp p)]
theorem leQ_anti {a b : Nat × Nat} (h1 : leQ a b = true) (h2 : leQ b a = true) : a = b := by
  obtain ⟨a1, a2⟩ := a
  obtain ⟨b1, b2⟩ := b
  unfold leQ at h1 h2
  simp at h1 h2
  rw [Prod.mk.injEq]
  omega
def crossP (rows : List Row) : List (Nat × Nat) := isort leQ ((upto rows.length).flatMap fun k => (betweenL rows k).map fun j => (j, k))
theorem mem_crossP {rows : List Row} {p : Nat × Nat} : p ∈ crossP rows ↔ p.1 < rows.length ∧ p.2 < rows.length ∧ amidAt rows p.1 p.2 = true := by
  unfold crossP
  rw [(isortQ_perm _).mem_iff, List.mem_flatMap]
  constructor
  · rintro ⟨k, hk, h⟩
    obtain ⟨j, hj, rfl⟩ := List.mem_map.mp h
    exact ⟨(mem_between.mp hj).1, mem_upto.mp hk, (mem_between.mp hj).2⟩
  · rintro ⟨h1, h2, h3⟩
    exact ⟨p.2, mem_upto.mpr h2, List.mem_map.mpr ⟨p.1, mem_between.mpr ⟨h1, h3⟩, rfl⟩⟩
theorem cross_len0 {rows : List Row} (hl : rows.length < 64) : ∀ a b : List Nat, a ++ b = upto rows.length → (a.flatMap fun k => (betweenL rows k).map fun j => (j, k)).length ≤ 4000 := by
  intro a b e
  have h1 := flatMap_len (f := fun k => (betweenL rows k).map fun j => (j, k)) (n := 63) (l := a) fun x _ => by
    rw [List.length_map]
    have := between_len (rows := rows) (k := x)
    omega
  have h2 : a.length ≤ 63 := by have := congrArg List.length e; rw [upto_len] at this; simp at this; omega
  omega
theorem cross_len {rows : List Row} (hl : rows.length < 64) : (crossP rows).length ≤ 4000 := by
  unfold crossP
  rw [(isortQ_perm _).length_eq]
  exact cross_len0 hl _ [] (by simp)
theorem pure_pairs (l : List (Nat × Nat)) : D.pures (l.map encP) = true := pures_of fun x hx => by
  obtain ⟨k, _, rfl⟩ := List.mem_map.mp hx
  rfl
theorem crossings_ok {d : D} {rows : List Row} (hd : D.ok 13 d = true) (t : tupD d = RT rows) (hl : rows.length < 64) : wF c_crossings [d] [] fun x S => x = .loc 0 ∧ S = [.lst ((crossP rows).map encP)] := by
  unfold c_crossings
  repeat walk_at "v"
  refine ⟨⟨rfl, pures1 (ok_pure hd)⟩, ?_⟩
  refine (ses_init hd t).mono fun x S ⟨e, r, hf, er⟩ => ?_
  subst er
  refine ⟨e, _, hf, ?_⟩
  repeat walk_at "v"
  refine e_comp2 ?_
  repeat walk_at "v"
  refine ⟨⟨_, rfl⟩, ?_⟩
  repeat walk_at "v"
  refine wC_pure (ses_numbers hl) (pures1 (pure_ses rows)) ?_
  repeat walk_at "v"
  refine ⟨((upto rows.length).flatMap fun k => (betweenL rows k).map fun j => (j, k)).map encP, ?_, ?_⟩
  · have h := loopO_map (J := ⟨(upto rows.length).map fun j : Nat => D.int (j : Int), []⟩) (e0 := [some d, some (SesD rows), none, none]) (p := pN 2) (tt := tTrue) (S := []) (enc := fun j : Nat => D.int (j : Int))
      (inn := innC (iSeq (mCallR false c_Sessions_between 2 (aCons (mRecv (Str.ofString "Sessions") (mVar 1)) (aCons (mVar 2) aNil)))) [3] (pN 3) tTrue (mTup (aCons (mVar 3) (aCons (mVar 2) aNil))))
      (fun k => ((betweenL rows k).map fun j => encP (j, k))) 4000 rfl (upto rows.length) [] (fun k hk => ?_) (fun a b e => ?_)
    · rw [List.nil_append] at h
      rw [List.map_flatMap]
      simp only [List.map_map]
      exact h
    · refine ⟨_, rfl, rfl, fun acc hacc => ?_⟩
      have hk2 := mem_upto.mp hk
      have bl := between_len (rows := rows) (k := k)
      obtain ⟨J, S1, h1, h2⟩ : wI (iSeq (mCallR false c_Sessions_between 2 (aCons (mRecv (Str.ofString "Sessions") (mVar 1)) (aCons (mVar 2) aNil)))) [some d, some (SesD rows), some (.int (k : Int)), none] [] fun J S1 => J = ⟨(betweenL rows k).map fun j : Nat => D.int (j : Int), []⟩ ∧ S1 = [] := by
        repeat walk_at "v"
        refine ⟨⟨_, rfl⟩, ?_⟩
        repeat walk_at "v"
        refine wC_pure (ses_between hk2 hl) (pure_ses2 _ _) ?_
        repeat walk_at "v"
        exact rfl
      obtain ⟨rfl, rfl⟩ := h2
      have h3 := loopN_map (J := ⟨(betweenL rows k).map fun j : Nat => D.int (j : Int), []⟩) (e0 := [some d, some (SesD rows), some (.int (k : Int)), none]) (p := pN 3) (S := []) (enc := fun j : Nat => D.int (j : Int)) (g := fun j => encP (j, k))
        (tt := tTrue) (me := (mTup (aCons (mVar 3) (aCons (mVar 2) aNil)))) (fun _ => true) rfl (betweenL rows k) acc (fun j hj => ?_) (by omega)
      · unfold innC
        have h1 : iSeq (mCallR false c_Sessions_between 2 (aCons (mRecv (Str.ofString "Sessions") (mVar 1)) (aCons (mVar 2) aNil))) (([some d, some (SesD rows), none, none] : MEnv).set 2 (some (.int (k : Int)))) [] = some (⟨(betweenL rows k).map fun j : Nat => D.int (j : Int), []⟩, []) := h1
        rw [h1]
        rw [List.filter_eq_self.mpr fun _ _ => rfl] at h3
        exact h3
      · refine ⟨_, rfl, ?_⟩
        repeat walk_at "v"
        refine fun _ => ?_
        repeat walk_at "v"
        exact rfl
    · have := cross_len0 hl a b e
      have e2 : (a.flatMap fun k => (betweenL rows k).map fun j => encP (j, k)).length = (a.flatMap fun k => (betweenL rows k).map fun j => (j, k)).length := by
        simp [List.length_flatMap]
      rw [e2]
      simpa using this
  · refine v_sortQ (cross_len0 hl _ [] (by simp)) ?_
    repeat walk_at "v"
    exact rfl
/-- two of a row cross -/
def someCross (rows : List Row) (l : List Nat) : Bool := l.any fun i => l.any fun j => amidAt rows i j
theorem apart_ok {d d2 : D} {rows : List Row} {l : List Nat} (hd : D.ok 13 d = true) (t : tupD d = RT rows) (hl : rows.length < 64) (h2 : d2 = natsD l ∨ d2 = .lst (l.map fun j : Nat => .int (j : Int))) (hlt : ∀ k ∈ l, k < rows.length) (hlen : l.length < 64) : Rg c_can_be_apart [d, d2] (.bl (!someCross rows l)) := by
  have hs : ∀ S, itsOf S d2 = some ⟨l.map fun j : Nat => .int (j : Int), []⟩ := fun S => by rcases h2 with h | h <;> subst h <;> rfl
  unfold Rg c_can_be_apart
  repeat walk_at "v"
  refine ⟨⟨rfl, pures1 (ok_pure hd)⟩, ?_⟩
  refine (ses_init hd t).mono fun x S ⟨e, r, hf, er⟩ => ?_
  subst er
  refine ⟨e, _, hf, ?_⟩
  repeat walk_at "v"
  refine ⟨_, hs _, ?_⟩
  refine ⟨by rw [List.length_map]; omega, ?_⟩
  refine wK_map0 (enc := fun j : Nat => D.int (j : Int)) (g := fun j : Nat => .int (j : Int)) rfl l [] (fun j hj => ?_) ?_
  · refine ⟨_, rfl, ?_⟩
    repeat walk_at "v"
    refine ⟨⟨_, rfl⟩, ?_⟩
    repeat walk_at "v"
    refine wC_pure (ses_check (hlt j hj)) (pure_ses2 _ _) ?_
    exact ⟨rfl, rfl⟩
  · rw [List.nil_append]
    repeat walk_at "v"
    refine e_comp2 ?_
    repeat walk_at "v"
    refine ⟨(l.flatMap fun i => l.map fun j => amidAt rows i j).map fun b => D.bl b, ?_, ?_⟩
    · have h := loopO_map (J := ⟨l.map fun j : Nat => D.int (j : Int), []⟩) (e0 := [some d, some d2, some (SesD rows), some (.lst (l.map fun j : Nat => .int (j : Int))), none, none, none]) (p := pN 5) (tt := tTrue) (S := []) (enc := fun j : Nat => D.int (j : Int))
        (inn := innC (iSeq (mVar 3)) [6] (pN 6) tTrue (mCallR false c_Sessions_is_between 3 (aCons (mRecv (Str.ofString "Sessions") (mVar 2)) (aCons (mVar 5) (aCons (mVar 6) aNil)))))
        (fun i => l.map fun j => D.bl (amidAt rows i j)) 4000 rfl l [] (fun i hi => ?_) (fun a b e => ?_)
      · rw [List.nil_append] at h
        rw [List.map_flatMap]
        simp only [List.map_map]
        exact h
      · refine ⟨_, rfl, rfl, fun acc hacc => ?_⟩
        have ei := get_at (hlt i hi)
        have h3 := loopN_map (J := ⟨l.map fun j : Nat => D.int (j : Int), []⟩) (e0 := [some d, some d2, some (SesD rows), some (.lst (l.map fun j : Nat => .int (j : Int))), none, some (.int (i : Int)), none]) (p := pN 6) (S := []) (enc := fun j : Nat => D.int (j : Int)) (g := fun j => D.bl (amidAt rows i j))
          (tt := tTrue) (me := mCallR false c_Sessions_is_between 3 (aCons (mRecv (Str.ofString "Sessions") (mVar 2)) (aCons (mVar 5) (aCons (mVar 6) aNil)))) (fun _ => true) rfl l acc (fun j hj => ?_) (by omega)
        · rw [List.filter_eq_self.mpr fun _ _ => rfl] at h3
          exact h3
        · have ej := get_at (hlt j hj)
          refine ⟨_, rfl, ?_⟩
          repeat walk_at "v"
          refine fun _ => ?_
          repeat walk_at "v"
          refine ⟨⟨_, rfl⟩, ?_⟩
          repeat walk_at "v"
          refine wC_pure (ses_is_between ei ej) (pure_ses3 _ _ _) ?_
          exact ⟨by unfold amidAt; rw [ei, ej], rfl⟩
      · have h1 := flatMap_len (f := fun i => l.map fun j => D.bl (amidAt rows i j)) (n := 63) (l := a) fun x _ => by
          rw [List.length_map]
          omega
        have h2 : a.length ≤ 63 := by have := congrArg List.length e; simp at this; omega
        simp only [List.length_nil, Nat.zero_add]
        omega
    · refine v_any (f := fun b : Bool => b) ?_
      repeat walk_at "v"
      have e : (l.flatMap fun i => l.map fun j => amidAt rows i j).any (fun b => b) = someCross rows l := by
        unfold someCross
        rw [List.any_flatMap]
        simp [List.any_map, Function.comp_def]
      rw [e]
      exact frz_pure rfl
end MM
set_option maxRecDepth 100000
set_option maxHeartbeats 1000000
namespace MM
open PySem PySem.Spec PyProof.Rows L2
local instance tab_Mp19 : Tabl := tab0
local macro_rules | `(tactic| walk_at "w") => `(tactic| with_reducible first
  | refine e_var (by with_unfolding_all rfl) ?_ | refine e_c ?_ | refine e_m2 ?_ | refine e_m1 ?_ | refine e_new ?_ | refine e_ch ?_ | refine e_and ?_ | refine e_or ?_ | refine e_not ?_ | refine e_if ?_ | refine e_tup ?_ | refine e_lst ?_ | refine e_sl ?_ | refine e_app ?_
  | refine e_callR ?_ | refine e_call ?_ | refine e_comp ?_ | refine t_b1 ?_ | refine t_tr ?_ | refine t_an ?_ | refine t_or ?_ | refine t_no ?_ | refine t_true ?_ | refine a_nil ?_ | refine a_cons ?_ | refine a_pick ?_ | refine o_no ?_ | refine o_so ?_
  | refine s_nil ?_ | refine s_retn ?_ | refine s_brk ?_ | refine s_cnt ?_ | refine s_seq ?_ | refine s_set ?_ | refine s_expr ?_ | refine s_ret ?_ | refine s_if ?_ | refine s_asg ?_ | refine s_par ?_ | refine s_sub ?_ | refine f_fn ?_
  | refine n_then ?_ | refine n_thenr ?_ | refine n_thenb ?_ | refine n_thenc ?_ | refine n_endr ?_ | refine n_endn ?_ | refine n_turn ?_ | refine n_turnc ?_ | refine n_turnb ?_ | refine n_turnr ?_ | refine i_seq ?_ | refine i_zip ?_ | refine i_enm ?_ | refine i_rg1 ?_ | refine i_rg2 ?_
  | refine b_t ?_ | refine b_f ?_ | refine v_addI ?_ | refine v_sub ?_ | refine v_some ?_
  | refine v_mod (by first | assumption | decide | omega) ?_
  | refine v_div (by first | assumption | decide | omega) ?_
  | refine v_ix (by with_unfolding_all rfl) (by with_unfolding_all rfl) (by with_unfolding_all rfl) ?_
  | refine v_tupl (by with_unfolding_all rfl) ?_ | refine v_list (by with_unfolding_all rfl) ?_ | refine v_len (by with_unfolding_all rfl) (by with_unfolding_all rfl) ?_
  | refine v_mul (by first | assumption | exact okM_l (by decide) (by decide) | exact okM_r (by decide) (by decide) | exact okM_l (by omega) (by omega) | exact okM_r (by omega) (by omega)) ?_
  | refine v_eqI ?_ | refine v_neI ?_ | refine v_mk (by with_unfolding_all rfl) ?_
  | refine Exists.intro _ (And.intro (by with_unfolding_all rfl) ?_)
  | refine And.intro (by first | assumption | (with_unfolding_all exact Nat.le_of_ble_eq_true rfl) | (with_unfolding_all decide) | (with_unfolding_all rfl)) ?_
  | refine Exists.intro _ (Exists.intro _ (Exists.intro _ (And.intro (by with_unfolding_all rfl) (And.intro (by with_unfolding_all rfl) (And.intro (by with_unfolding_all rfl) ?_)))))
  | refine Exists.intro _ (Exists.intro _ (Exists.intro _ (Exists.intro _ (And.intro (by with_unfolding_all rfl) (And.intro (by with_unfolding_all rfl) (And.intro (by with_unfolding_all rfl) (And.intro (by with_unfolding_all rfl) ?_)))))))
  | refine b_eq (z := true) (by with_unfolding_all rfl) ?_ | refine b_eq (z := false) (by with_unfolding_all rfl) ?_)
local macro_rules | `(tactic| walk_at "v") => `(tactic| with_reducible first
  | walk_at "w" | refine e_recv ?_ | refine e_makeR ?_ | refine s_attr ?_ | refine e_rgL1 ?_ | refine s_for ?_)
/-! ### the plain law of going through: greedy rows -/
section
variable {bar : Nat → Nat → Bool}
def gstep (bar : Nat → Nat → Bool) (T : List Nat) (k : Nat) : List Nat := if (T.filter fun j => bar j k).isEmpty = true then T ++ [k] else T
def grun (bar : Nat → Nat → Bool) (l : List Nat) : List Nat := l.foldl (gstep bar) []
theorem grun_snoc {l : List Nat} {k : Nat} : grun bar (l ++ [k]) = gstep bar (grun bar l) k := by
  unfold grun
  rw [List.foldl_append]
  rfl
theorem gfold_sub : ∀ (l T : List Nat), (l.foldl (gstep bar) T).Sublist (T ++ l)
  | [], T => by simp
  | k :: l, T => by
    refine (gfold_sub l (gstep bar T k)).trans ?_
    unfold gstep
    split
    · simp
    · exact (List.Sublist.refl T).append (List.sublist_cons_self k l)
theorem grun_sub (l : List Nat) : (grun bar l).Sublist l := by
  have := gfold_sub (bar := bar) l []
  simpa [grun] using this
theorem gfold_pw : ∀ (l T : List Nat), T.Pairwise (fun i j => bar i j = false) → (l.foldl (gstep bar) T).Pairwise (fun i j => bar i j = false)
  | [], T, h => h
  | k :: l, T, h => by
    refine gfold_pw l (gstep bar T k) ?_
    unfold gstep
    split
    · rename_i h2
      rw [List.isEmpty_iff, List.filter_eq_nil_iff] at h2
      rw [List.pairwise_append]
      refine ⟨h, by simp, fun a ha b hb => ?_⟩
      rw [List.mem_singleton.mp hb]
      simpa using h2 a ha
    · exact h
theorem grun_pw (l : List Nat) : (grun bar l).Pairwise (fun i j => bar i j = false) := gfold_pw l [] .nil
theorem upto_sub {n : Nat} {l : List Nat} (h : l.Sublist (upto n)) : l.Pairwise (· < ·) ∧ ∀ k ∈ l, k < n := ⟨(upto_up n).sublist h, fun k hk => mem_upto.mp (h.subset hk)⟩
theorem greedy_ge {n : Nat} {sav opn : Nat → Int} {c : Nat → Bool} (mono : ∀ i j, i < j → j < n → sav i < sav j) (hb : ∀ j k, j < k → k < n → bar j k = true → opn k < sav j) (hc : ∀ i j, i < j → j < n → c i = true → c j = true → sav i ≤ opn j) :
    ∀ k, k ≤ n → ((upto k).filter c).length ≤ (grun bar (upto k)).length ∧ (((upto k).filter c).length = (grun bar (upto k)).length → ∀ m ∈ grun bar (upto k), ∃ s ∈ (upto k).filter c, m ≤ s)
  | 0, _ => by simp [upto, grun]
  | k + 1, hk => by
    obtain ⟨h1, h2⟩ := greedy_ge mono hb hc k (by omega)
    rw [upto_succ, grun_snoc, List.filter_append]
    have hm : ∀ m ∈ grun bar (upto k), m < k := (upto_sub (grun_sub _)).2
    have hs : ∀ s ∈ (upto k).filter c, s < k ∧ c s = true := fun s hs => ⟨mem_upto.mp (List.mem_filter.mp hs).1, (List.mem_filter.mp hs).2⟩
    have hle : ∀ m ∈ gstep bar (grun bar (upto k)) k, m ≤ k := by
      intro m h
      unfold gstep at h
      split at h
      · rcases List.mem_append.mp h with h | h
        · exact Nat.le_of_lt (hm m h)
        · rw [List.mem_singleton.mp h]; exact Nat.le_refl k
      · exact Nat.le_of_lt (hm m h)
    have hgl : (grun bar (upto k)).length ≤ (gstep bar (grun bar (upto k)) k).length := by
      unfold gstep
      split
      · simp
      · exact Nat.le_refl _
    by_cases hck : c k = true
    · have e : [k].filter c = [k] := by simp [hck]
      rw [e, List.length_append]
      refine ⟨?_, fun _ m h => ⟨k, by simp, hle m h⟩⟩
      by_cases heq : ((upto k).filter c).length = (grun bar (upto k)).length
      · have hn : ((grun bar (upto k)).filter fun j => bar j k).isEmpty = true := by
          rw [List.isEmpty_iff, List.filter_eq_nil_iff]
          intro m hm' hbar
          obtain ⟨s, hs', hle'⟩ := h2 heq m hm'
          have a1 := hb m k (hm m hm') hk hbar
          have a2 := hc s k (hs s hs').1 hk (hs s hs').2 hck
          have a3 : sav m ≤ sav s := by
            rcases Nat.lt_or_eq_of_le hle' with h | h
            · exact Int.le_of_lt (mono m s h (by have := (hs s hs').1; omega))
            · rw [h]; exact Int.le_refl _
          omega
        unfold gstep
        rw [if_pos hn]
        simp
        omega
      · simp
        omega
    · have e : [k].filter c = [] := by simp [hck]
      rw [e, List.append_nil]
      refine ⟨by omega, fun h m hm' => ?_⟩
      unfold gstep at h hm'
      split at h
      · simp at h
        omega
      · rename_i hx
        rw [if_neg hx] at hm'
        exact h2 h m hm'
/-- who is not let by is so because of one that is -/
theorem gstep_mem {T : List Nat} {j k : Nat} : j ∈ gstep bar T k → j ∈ T ∨ j = k := by
  unfold gstep
  split
  · intro h
    rcases List.mem_append.mp h with h | h
    · exact .inl h
    · exact .inr (List.mem_singleton.mp h)
  · exact .inl
end
theorem asc_ext : ∀ {a b : List Nat}, a.Pairwise (· < ·) → b.Pairwise (· < ·) → (∀ x, x ∈ a ↔ x ∈ b) → a = b
  | [], [], _, _, _ => rfl
  | [], y :: b, _, _, h => by have := (h y).mpr (by simp); simp at this
  | x :: a, [], _, _, h => by have := (h x).mp (by simp); simp at this
  | x :: a, y :: b, h1, h2, h => by
    have p1 := List.pairwise_cons.mp h1
    have p2 := List.pairwise_cons.mp h2
    have hx := (h x).mp (by simp)
    have hy := (h y).mpr (by simp)
    have e : x = y := by
      rcases List.mem_cons.mp hx with h' | h'
      · exact h'
      · rcases List.mem_cons.mp hy with h'' | h''
        · exact h''.symm
        · have := p1.1 y h''
          have := p2.1 x h'
          omega
    subst e
    rw [asc_ext p1.2 p2.2 fun z => ?_]
    constructor
    · intro hz
      rcases List.mem_cons.mp ((h z).mp (by simp [hz])) with e | e
      · have := p1.1 z hz; omega
      · exact e
    · intro hz
      rcases List.mem_cons.mp ((h z).mpr (by simp [hz])) with e | e
      · have := p2.1 z hz; omega
      · exact e
theorem sortI_asc (l : List Int) : (sortI l).Pairwise (· ≤ ·) := by
  have ins : ∀ (x : Int) (m : List Int), m.Pairwise (· ≤ ·) → (insI x m).Pairwise (· ≤ ·) ∧ ∀ z ∈ insI x m, z = x ∨ z ∈ m := by
    intro x m
    induction m with
    | nil => intro _; exact ⟨by simp [insI], by simp [insI]⟩
    | cons y m ih =>
      intro h
      have hp := List.pairwise_cons.mp h
      unfold insI
      split
      · rename_i hxy
        refine ⟨List.pairwise_cons.mpr ⟨fun z hz => ?_, h⟩, fun z hz => by simpa using hz⟩
        rcases List.mem_cons.mp hz with e | e
        · rw [e]; exact hxy
        · exact Int.le_trans hxy (hp.1 z e)
      · rename_i hxy
        have h2 := ih hp.2
        refine ⟨List.pairwise_cons.mpr ⟨fun z hz => ?_, h2.1⟩, fun z hz => ?_⟩
        · rcases h2.2 z hz with e | e
          · rw [e]; omega
          · exact hp.1 z e
        · rcases List.mem_cons.mp hz with e | e
          · exact .inr (by simp [e])
          · rcases h2.2 z e with e | e
            · exact .inl e
            · exact .inr (by simp [e])
  induction l with
  | nil => simp [sortI]
  | cons x l ih => exact (ins x _ ih).1
theorem lettN_asc {l : List Nat} (hn : l.Nodup) : (lettN l).Pairwise (· < ·) := by
  have h1 : ((lettN l).map fun k : Nat => (k : Int)) = sortI (l.map fun k : Nat => (k : Int)) := by
    have := lettN_map l
    have h2 : ∀ (a : List Int) (b : List Nat), a.map D.int = b.map (fun k : Nat => D.int (k : Int)) → b.map (fun k : Nat => (k : Int)) = a := by
      intro a
      induction a with
      | nil => intro b h; cases b with
        | nil => rfl
        | cons y b => simp at h
      | cons x a ih => intro b h; cases b with
        | nil => simp at h
        | cons y b =>
          simp only [List.map_cons, List.cons.injEq] at h
          have hx : x = (y : Int) := by injection h.1
          rw [List.map_cons, ih b h.2, hx]
    exact h2 _ _ this
  have hle : (lettN l).Pairwise (· ≤ ·) := by
    have := sortI_asc (l.map fun k : Nat => (k : Int))
    rw [← h1, List.pairwise_map] at this
    exact this.imp fun h => by omega
  have hnd : (lettN l).Nodup := by
    have p : ((lettN l).map fun k : Nat => (k : Int)).Perm (l.map fun k : Nat => (k : Int)) := by rw [h1]; exact sortI_perm _
    have hn2 : (l.map fun k : Nat => (k : Int)).Nodup := List.pairwise_map.mpr (hn.imp fun h => by omega)
    have := p.nodup_iff.mpr hn2
    exact (List.pairwise_map.mp this).imp fun h => by omega
  exact (List.pairwise_and_iff.mpr ⟨hle, hnd⟩).imp fun ⟨h, h'⟩ => by omega
theorem lettN_id {l : List Nat} (h : l.Pairwise (· < ·)) : lettN l = l := asc_ext (lettN_asc (h.imp fun h => Nat.ne_of_lt h)) h fun _ => mem_lettN
end MM
set_option maxRecDepth 100000
set_option maxHeartbeats 1000000
namespace MM
open PySem PySem.Spec PyProof.Rows L2
local instance tab_Mp20 : Tabl := tab0
local macro_rules | `(tactic| walk_at "w") => `(tactic| with_reducible first
  | refine e_var (by with_unfolding_all rfl) ?_ | refine e_c ?_ | refine e_m2 ?_ | refine e_m1 ?_ | refine e_new ?_ | refine e_ch ?_ | refine e_and ?_ | refine e_or ?_ | refine e_not ?_ | refine e_if ?_ | refine e_tup ?_ | refine e_lst ?_ | refine e_sl ?_ | refine e_app ?_
  | refine e_callR ?_ | refine e_call ?_ | refine e_comp ?_ | refine t_b1 ?_ | refine t_tr ?_ | refine t_an ?_ | refine t_or ?_ | refine t_no ?_ | refine t_true ?_ | refine a_nil ?_ | refine a_cons ?_ | refine a_pick ?_ | refine o_no ?_ | refine o_so ?_
  | refine s_nil ?_ | refine s_retn ?_ | refine s_brk ?_ | refine s_cnt ?_ | refine s_seq ?_ | refine s_set ?_ | refine s_expr ?_ | refine s_ret ?_ | refine s_if ?_ | refine s_asg ?_ | refine s_par ?_ | refine s_sub ?_ | refine f_fn ?_
  | refine n_then ?_ | refine n_thenr ?_ | refine n_thenb ?_ | refine n_thenc ?_ | refine n_endr ?_ | refine n_endn ?_ | refine n_turn ?_ | refine n_turnc ?_ | refine n_turnb ?_ | refine n_turnr ?_ | refine i_seq ?_ | refine i_zip ?_ | refine i_enm ?_ | refine i_rg1 ?_ | refine i_rg2 ?_
  | refine b_t ?_ | refine b_f ?_ | refine v_addI ?_ | refine v_sub ?_ | refine v_some ?_
  | refine v_mod (by first | assumption | decide | omega) ?_
  | refine v_div (by first | assumption | decide | omega) ?_
  | refine v_ix (by with_unfolding_all rfl) (by with_unfolding_all rfl) (by with_unfolding_all rfl) ?_
  | refine v_tupl (by with_unfolding_all rfl) ?_ | refine v_list (by with_unfolding_all rfl) ?_ | refine v_len (by with_unfolding_all rfl) (by with_unfolding_all rfl) ?_
  | refine v_mul (by first | assumption | exact okM_l (by decide) (by decide) | exact okM_r (by decide) (by decide) | exact okM_l (by omega) (by omega) | exact okM_r (by omega) (by omega)) ?_
  | refine v_eqI ?_ | refine v_neI ?_ | refine v_mk (by with_unfolding_all rfl) ?_
  | refine Exists.intro _ (And.intro (by with_unfolding_all rfl) ?_)
  | refine And.intro (by first | assumption | (with_unfolding_all exact Nat.le_of_ble_eq_true rfl) | (with_unfolding_all decide) | (with_unfolding_all rfl)) ?_
  | refine Exists.intro _ (Exists.intro _ (Exists.intro _ (And.intro (by with_unfolding_all rfl) (And.intro (by with_unfolding_all rfl) (And.intro (by with_unfolding_all rfl) ?_)))))
  | refine Exists.intro _ (Exists.intro _ (Exists.intro _ (Exists.intro _ (And.intro (by with_unfolding_all rfl) (And.intro (by with_unfolding_all rfl) (And.intro (by with_unfolding_all rfl) (And.intro (by with_unfolding_all rfl) ?_)))))))
  | refine b_eq (z := true) (by with_unfolding_all rfl) ?_ | refine b_eq (z := false) (by with_unfolding_all rfl) ?_)
local macro_rules | `(tactic| walk_at "v") => `(tactic| with_reducible first
  | walk_at "w" | refine e_recv ?_ | refine e_makeR ?_ | refine s_attr ?_ | refine e_rgL1 ?_ | refine s_for ?_)
/-! ### who is let by, and because of whom others are not: the plain law -/
/-- rows as the law draws them -/
structure SsOk (rows : List Row) : Prop where
  len : rows.length ≤ 10
  nm : ∀ r ∈ rows, nmOk r.2.2 = true
  lo : ∀ r ∈ rows, 0 ≤ r.1 ∧ r.1 < r.2.1
  inc : rows.Pairwise fun a b => a.2.1 < b.2.1
section
variable {rows : List Row} {rule : Str}
theorem SsOk.rw (H : SsOk rows) : RwOk rows := ⟨by have := H.len; omega, fun r hr => nm_len (H.nm r hr)⟩
theorem SsOk.ok (H : SsOk rows) : D.ok 13 (RT rows) = true := ok_mono (by decide) (ok_rows (by have := H.len; omega) H.nm)
theorem SsOk.tup (H : SsOk rows) : tupD (RT rows) = RT rows := tupD_rows rows
theorem SsOk.okS (H : SsOk rows) : D.ok 13 (lisD (RT rows)) = true := ok_lisD H.ok
theorem SsOk.tupS (H : SsOk rows) : tupD (lisD (RT rows)) = RT rows := by rw [tup_lis H.ok, H.tup]
theorem SsOk.hl (H : SsOk rows) : rows.length < 64 := by have := H.len; omega
theorem opn_at {k : Nat} {r : Row} (h : rows[k]? = some r) : opn rows k = r.1 := by unfold opn; rw [h]
theorem savN_at {k : Nat} {r : Row} (h : rows[k]? = some r) : savN rows k = r.2.1 := by unfold savN; rw [h]
theorem SsOk.mono (H : SsOk rows) {i j : Nat} (h : i < j) (hj : j < rows.length) : savN rows i < savN rows j := by
  have hi : i < rows.length := by omega
  rw [savN_at (List.getElem?_eq_getElem hi), savN_at (List.getElem?_eq_getElem hj)]
  exact List.pairwise_iff_getElem.mp H.inc i j hi hj h
theorem SsOk.pos (H : SsOk rows) {k : Nat} (h : k < rows.length) : 0 ≤ opn rows k ∧ opn rows k < savN rows k := by
  rw [savN_at (List.getElem?_eq_getElem h), opn_at (List.getElem?_eq_getElem h)]
  exact H.lo _ (List.getElem_mem h)
theorem amidAt_iff {j k : Nat} (hj : j < rows.length) (hk : k < rows.length) : amidAt rows j k = true ↔ opn rows k < savN rows j ∧ savN rows j < savN rows k := by
  rw [savN_at (List.getElem?_eq_getElem hk), opn_at (List.getElem?_eq_getElem hk), savN_at (List.getElem?_eq_getElem hj)]
  unfold amidAt
  rw [List.getElem?_eq_getElem hk, List.getElem?_eq_getElem hj]
  unfold amid
  simp
theorem SsOk.amid_lt (H : SsOk rows) {j k : Nat} (hj : j < rows.length) (hk : k < rows.length) (h : amidAt rows j k = true) : j < k := by
  have h2 := (amidAt_iff hj hk).mp h
  rcases Nat.lt_trichotomy j k with h' | h' | h'
  · exact h'
  · subst h'; omega
  · have := H.mono h' hj; omega
theorem stands_lock {j k : Nat} (hj : j < rows.length) (hk : k < rows.length) : standsAt rows sLock j k = true ↔ opn rows k < savN rows j := by
  rw [opn_at (List.getElem?_eq_getElem hk), savN_at (List.getElem?_eq_getElem hj)]
  unfold standsAt
  rw [List.getElem?_eq_getElem hk, List.getElem?_eq_getElem hj]
  unfold standsR
  simp
theorem check_ne : sCheck ≠ sLock := by decide +kernel
theorem merge_ne : sMerge ≠ sLock ∧ sMerge ≠ sCheck := by decide +kernel
theorem stands_check {j k : Nat} (hj : j < rows.length) (hk : k < rows.length) : standsAt rows sCheck j k = amidAt rows j k := by
  unfold standsAt amidAt
  rw [List.getElem?_eq_getElem hk, List.getElem?_eq_getElem hj]
  unfold standsR
  dsimp only
  rw [if_neg check_ne, if_pos rfl]
theorem stands_merge {j k : Nat} (hj : j < rows.length) (hk : k < rows.length) : standsAt rows sMerge j k = (amidAt rows j k && decide (0 < (commonL rows[j].2.2 rows[k].2.2).length)) := by
  unfold standsAt amidAt
  rw [List.getElem?_eq_getElem hk, List.getElem?_eq_getElem hj]
  unfold standsR
  dsimp only
  rw [if_neg merge_ne.1, if_neg merge_ne.2, if_pos rfl]
/-- the rules by which all are let by -/
theorem stands_free {j k : Nat} (h1 : rule ≠ sLock) (h2 : rule ≠ sCheck) (h3 : rule ≠ sMerge) : standsAt rows rule j k = false := by
  unfold standsAt standsR
  split
  · rw [if_neg h1, if_neg h2, if_neg h3]
  · rfl
theorem run_fst : ∀ line : List Nat, (runL rows rule line).1 = grun (standsAt rows rule) line := by
  suffices h : ∀ (line : List Nat) (s : CoS), (line.foldl (comeL rows rule) s).1 = line.foldl (gstep (standsAt rows rule)) s.1 from fun line => h line ([], [])
  intro line
  induction line with
  | nil => intro s; rfl
  | cons k line ih =>
    intro s
    rw [List.foldl_cons, List.foldl_cons, ih]
    congr 1
    unfold comeL gstep barsL
    split <;> rfl
theorem minB_mem {bars : List Nat} (h : bars ≠ []) : ∃ j ∈ bars, minB bars = (j : Int) := by
  have key : ∀ (l : List Int) (x : Int), l.foldl (fun m y => if y < m then y else m) x = x ∨ l.foldl (fun m y => if y < m then y else m) x ∈ l := by
    intro l
    induction l with
    | nil => intro x; exact .inl rfl
    | cons y l ih =>
      intro x
      rw [List.foldl_cons]
      split
      · rcases ih y with h | h
        · exact .inr (by rw [h]; simp)
        · exact .inr (List.mem_cons_of_mem _ h)
      · rcases ih x with h | h
        · exact .inl h
        · exact .inr (List.mem_cons_of_mem _ h)
  cases bars with
  | nil => exact absurd rfl h
  | cons x l =>
    unfold minB minI
    simp only [List.map_cons, Option.getD_some]
    rcases key (l.map fun j : Nat => (j : Int)) (x : Int) with h | h
    · exact ⟨x, by simp, h⟩
    · obtain ⟨j, hj, e⟩ := List.mem_map.mp h
      exact ⟨j, by simp [hj], e.symm⟩
theorem ref_of : ∀ {line : List Nat} {p : Nat × Int}, p ∈ (runL rows rule line).2 → ∃ pre post, line = pre ++ p.1 :: post ∧ barsL rows rule (runL rows rule pre).1 p.1 ≠ [] ∧ p.2 = minB (barsL rows rule (runL rows rule pre).1 p.1) := by
  suffices h : ∀ (line : List Nat) (s : CoS) (p : Nat × Int), p ∈ (line.foldl (comeL rows rule) s).2 → p ∈ s.2 ∨ ∃ pre post, line = pre ++ p.1 :: post ∧ barsL rows rule (pre.foldl (comeL rows rule) s).1 p.1 ≠ [] ∧ p.2 = minB (barsL rows rule (pre.foldl (comeL rows rule) s).1 p.1) from fun {line p} hp => by
    rcases h line ([], []) p hp with h | h
    · cases h
    · exact h
  intro line
  induction line with
  | nil => intro s p h; exact .inl h
  | cons k line ih =>
    intro s p h
    rw [List.foldl_cons] at h
    rcases ih _ p h with h | ⟨pre, post, e, h2, h3⟩
    · unfold comeL at h
      split at h
      · exact .inl h
      · rename_i hb
        rcases List.mem_append.mp h with h | h
        · exact .inl h
        · rw [List.mem_singleton] at h
          subst h
          refine .inr ⟨[], line, rfl, ?_, rfl⟩
          intro z
          exact hb (by rw [show barsL rows rule s.1 k = [] from z]; rfl)
    · exact .inr ⟨k :: pre, post, by rw [e]; rfl, h2, h3⟩
theorem run_mono {pre post : List Nat} : ∀ j ∈ (runL rows rule pre).1, j ∈ (runL rows rule (pre ++ post)).1 := by
  intro j hj
  rw [run_fst] at hj ⊢
  unfold grun at hj ⊢
  rw [List.foldl_append]
  have key : ∀ (post T : List Nat), j ∈ T → j ∈ post.foldl (gstep (standsAt rows rule)) T := by
    intro post
    induction post with
    | nil => intro T h; exact h
    | cons k post ih =>
      intro T h
      refine ih _ ?_
      unfold gstep
      split
      · simp [h]
      · exact h
  exact key _ _ hj
/-- what a refusal says -/
theorem ref_says {line : List Nat} (hn : line.Nodup) {p : Nat × Int} (h : p ∈ (runL rows rule line).2) : p.1 ∈ line ∧ p.1 ∉ (runL rows rule line).1 ∧ ∃ (j : Nat) (pre post : List Nat), p.2 = (j : Int) ∧ line = pre ++ p.1 :: post ∧ j ∈ pre ∧ j ∈ (runL rows rule line).1 ∧ standsAt rows rule j p.1 = true := by
  obtain ⟨pre, post, e, hb, e2⟩ := ref_of h
  obtain ⟨j, hj, ej⟩ := minB_mem hb
  have hj' : j ∈ (runL rows rule pre).1 ∧ standsAt rows rule j p.1 = true := by
    unfold barsL at hj
    exact List.mem_filter.mp hj
  refine ⟨by rw [e]; simp, ?_, j, pre, post, by rw [e2, ej], e, (run_inv pre).1 j hj'.1, by rw [e]; exact run_mono j hj'.1, hj'.2⟩
  have e3 : (runL rows rule line).1 = post.foldl (gstep (standsAt rows rule)) (runL rows rule pre).1 := by
    rw [e, run_fst, run_fst]
    unfold grun
    rw [List.foldl_append, List.foldl_cons]
    congr 1
    show gstep _ (grun (standsAt rows rule) pre) p.1 = grun (standsAt rows rule) pre
    rw [← run_fst]
    unfold gstep
    rw [if_neg]
    intro z
    exact hb (by unfold barsL; exact List.isEmpty_iff.mp z)
  rw [e3]
  intro z
  rw [e] at hn
  have hn2 := List.nodup_append.mp hn
  rcases List.mem_append.mp ((gfold_sub post _).subset z) with h' | h'
  · exact hn2.2.2 _ ((run_inv pre).1 _ h') _ (by simp) rfl
  · exact (List.nodup_cons.mp hn2.2.1).1 h'
/-- the rows in the order in which they are looked at -/
def lineA (rows : List Row) (rule : Str) : List Nat := lineL rows rule (upto rows.length)
theorem line_nodup : (lineA rows rule).Nodup := line_perm.nodup_iff.mpr ((upto_up _).imp fun h => Nat.ne_of_lt h)
theorem mem_line {k : Nat} : k ∈ lineA rows rule ↔ k < rows.length := by
  unfold lineA
  rw [line_perm.mem_iff, mem_upto]
theorem line_free (h : rule ≠ sLock) : lineA rows rule = upto rows.length := by unfold lineA lineL; rw [if_neg h]
theorem leK_iff {a b : Nat} : leK rows a b = true ↔ opn rows a < opn rows b ∨ (opn rows a = opn rows b ∧ a ≤ b) := by
  unfold leK
  rw [leP_key]
  simp
theorem leK_total : PySem.W.TotalLe (leK rows) where
  trans a b c h1 h2 := by
    rw [leK_iff] at *
    omega
  total a b := by
    rw [leK_iff, leK_iff]
    omega
theorem line_lock : (lineA rows sLock).Pairwise fun a b => leK rows a b = true := by
  unfold lineA lineL
  rw [if_pos rfl, isort_eq leK_total]
  exact List.pairwise_mergeSort leK_total.trans (fun a b => by rw [Bool.or_eq_true]; exact leK_total.total a b) _
theorem allS_run : allS rows rule = runL rows rule (lineA rows rule) := rfl
theorem taken_sub : (allS rows rule).1.Sublist (lineA rows rule) := by
  rw [allS_run, run_fst]
  exact grun_sub _
theorem taken_nodup : (allS rows rule).1.Nodup := line_nodup.sublist taken_sub
theorem taken_asc : (takenA rows rule).Pairwise (· < ·) := lettN_asc taken_nodup
theorem mem_taken {k : Nat} : k ∈ takenA rows rule ↔ k ∈ (allS rows rule).1 := mem_lettN
theorem taken_run (h : rule ≠ sLock) : takenA rows rule = grun (standsAt rows rule) (upto rows.length) := by
  have e : (allS rows rule).1 = grun (standsAt rows rule) (upto rows.length) := by rw [allS_run, run_fst, line_free h]
  unfold takenA
  rw [e]
  exact lettN_id (upto_sub (grun_sub _)).1
theorem grun_free {bar : Nat → Nat → Bool} (h : ∀ j k, bar j k = false) : ∀ n, grun bar (upto n) = upto n
  | 0 => rfl
  | n + 1 => by
    rw [upto_succ, grun_snoc, grun_free h n]
    unfold gstep
    rw [if_pos]
    rw [List.isEmpty_iff, List.filter_eq_nil_iff]
    intro a _
    simp [h]
theorem taken_free (h1 : rule ≠ sLock) (h2 : rule ≠ sCheck) (h3 : rule ≠ sMerge) : takenA rows rule = upto rows.length := by
  rw [taken_run h1]
  exact grun_free (fun _ _ => stands_free h1 h2 h3) _
/-- by lock, one of those let by behind another opens when that one has saved -/
theorem SsOk.lock_apart (H : SsOk rows) {i j : Nat} (hi : i ∈ takenA rows sLock) (hj : j ∈ takenA rows sLock) (h : i < j) : savN rows i ≤ opn rows j := by
  have li := taken_at hi
  have lj := taken_at hj
  rw [mem_taken] at hi hj
  have pw : (allS rows sLock).1.Pairwise fun a b => standsAt rows sLock a b = false := by rw [allS_run, run_fst]; exact grun_pw _
  obtain ⟨x, hx, rfl⟩ := List.getElem_of_mem hi
  obtain ⟨y, hy, rfl⟩ := List.getElem_of_mem hj
  rcases Nat.lt_trichotomy x y with h' | h' | h'
  · have := List.pairwise_iff_getElem.mp pw x y hx hy h'
    have h2 : ¬ standsAt rows sLock (allS rows sLock).1[x] (allS rows sLock).1[y] = true := by rw [this]; simp
    rw [stands_lock li lj] at h2
    omega
  · subst h'; omega
  · have := List.pairwise_iff_getElem.mp pw y x hy hx h'
    have h2 : ¬ standsAt rows sLock (allS rows sLock).1[y] (allS rows sLock).1[x] = true := by rw [this]; simp
    rw [stands_lock lj li] at h2
    have := H.mono h lj
    have := H.pos li
    have := H.pos lj
    omega
theorem SsOk.check_apart (H : SsOk rows) {i j : Nat} (hi : i ∈ takenA rows sCheck) (hj : j ∈ takenA rows sCheck) (h : i < j) : savN rows i ≤ opn rows j := by
  have li := taken_at hi
  have lj := taken_at hj
  rw [taken_run check_ne] at hi hj
  have pw := grun_pw (bar := standsAt rows sCheck) (upto rows.length)
  have up := (upto_sub (grun_sub (bar := standsAt rows sCheck) (upto rows.length))).1
  obtain ⟨x, hx, rfl⟩ := List.getElem_of_mem hi
  obtain ⟨y, hy, rfl⟩ := List.getElem_of_mem hj
  have h' : x < y := by
    rcases Nat.lt_trichotomy x y with h' | h' | h'
    · exact h'
    · subst h'; omega
    · have := List.pairwise_iff_getElem.mp up y x hy hx h'; omega
  have := List.pairwise_iff_getElem.mp pw x y hx hy h'
  rw [stands_check li lj] at this
  have h2 : ¬ amidAt rows (grun (standsAt rows sCheck) (upto rows.length))[x] (grun (standsAt rows sCheck) (upto rows.length))[y] = true := by rw [this]; simp
  rw [amidAt_iff li lj] at h2
  have := H.mono h lj
  omega
/-- a row of numbers that ascend, as those of all that are in it -/
theorem asc_filter {l : List Nat} {n : Nat} (h : l.Pairwise (· < ·)) (hn : ∀ k ∈ l, k < n) : (upto n).filter (fun k => decide (k ∈ l)) = l :=
  asc_ext ((upto_up n).sublist List.filter_sublist) h fun x => by
    rw [List.mem_filter, mem_upto, decide_eq_true_eq]
    exact ⟨fun h => h.2, fun h => ⟨hn x h, h⟩⟩
/-- a rule that refuses only because of one that is between lets by as many as any row of which no two cross -/
theorem SsOk.most (H : SsOk rows) (h : rule ≠ sLock) (hb : ∀ j k, j < rows.length → k < rows.length → standsAt rows rule j k = true → amidAt rows j k = true) {l : List Nat} (hp : l.Pairwise (· < ·)) (hn : ∀ k ∈ l, k < rows.length) (ha : ∀ i j, i ∈ l → j ∈ l → i < j → savN rows i ≤ opn rows j) : l.length ≤ (takenA rows rule).length := by
  have := (greedy_ge (bar := standsAt rows rule) (n := rows.length) (sav := savN rows) (opn := opn rows) (c := fun k => decide (k ∈ l)) (fun i j hij hj => H.mono hij hj) (fun j k hjk hk hs => ((amidAt_iff (by omega) hk).mp (hb j k (by omega) hk hs)).1) (fun i j hij hj ci cj => ha i j (by simpa using ci) (by simpa using cj) hij) rows.length (Nat.le_refl _)).1
  rw [asc_filter hp hn, ← taken_run h] at this
  exact this
theorem SsOk.lock_check (H : SsOk rows) : (takenA rows sLock).length ≤ (takenA rows sCheck).length :=
  H.most check_ne (fun j k hj hk h => by rw [stands_check hj hk] at h; exact h) taken_asc (fun k hk => taken_at hk) fun i j hi hj h => H.lock_apart hi hj h
theorem SsOk.check_merge (H : SsOk rows) : (takenA rows sCheck).length ≤ (takenA rows sMerge).length :=
  H.most merge_ne.1 (fun j k hj hk h => by rw [stands_merge hj hk, Bool.and_eq_true] at h; exact h.1) taken_asc (fun k hk => taken_at hk) fun i j hi hj h => H.check_apart hi hj h
/-- rows of which no two cross -/
theorem SsOk.cross_none (H : SsOk rows) {l : List Nat} (hn : ∀ k ∈ l, k < rows.length) (ha : ∀ i j, i ∈ l → j ∈ l → i < j → savN rows i ≤ opn rows j) {i j : Nat} (hi : i ∈ l) (hj : j ∈ l) : amidAt rows i j = false := by
  rw [Bool.eq_false_iff]
  intro h
  have hlt := H.amid_lt (hn i hi) (hn j hj) h
  have := ha i j hi hj hlt
  have := (amidAt_iff (hn i hi) (hn j hj)).mp h
  omega
theorem cross_amid {i j : Nat} (hi : i < rows.length) (hj : j < rows.length) : crossAt rows i j = (amidAt rows i j || amidAt rows j i) := by
  unfold crossAt amidAt
  rw [List.getElem?_eq_getElem hi, List.getElem?_eq_getElem hj]
theorem mem_crossed {T : List Nat} {i : Nat} : i ∈ crossedL rows T ↔ i ∈ T ∧ ∃ j ∈ T, crossAt rows i j = true := by
  unfold crossedL
  rw [List.mem_flatMap]
  constructor
  · rintro ⟨x, hx, h⟩
    obtain ⟨y, hy, rfl⟩ := List.mem_map.mp h
    exact ⟨hx, y, List.mem_filter.mp hy⟩
  · rintro ⟨hi, j, hj, h⟩
    exact ⟨i, hi, List.mem_map.mpr ⟨j, List.mem_filter.mpr ⟨hj, h⟩, rfl⟩⟩
theorem SsOk.alone_all (H : SsOk rows) (ha : ∀ i j, i ∈ takenA rows rule → j ∈ takenA rows rule → i < j → savN rows i ≤ opn rows j) : aloneL rows rule = takenA rows rule := by
  unfold aloneL
  rw [List.filter_eq_self]
  intro i hi
  rw [decide_eq_true_eq, mem_crossed]
  rintro ⟨_, j, hj, h⟩
  rw [cross_amid (taken_at hi) (taken_at hj), H.cross_none (fun k hk => taken_at hk) ha hi hj, H.cross_none (fun k hk => taken_at hk) ha hj hi] at h
  cases h
theorem SsOk.apart_none (H : SsOk rows) {l : List Nat} (hn : ∀ k ∈ l, k < rows.length) (ha : ∀ i j, i ∈ l → j ∈ l → i < j → savN rows i ≤ opn rows j) : someCross rows l = false := by
  unfold someCross
  rw [List.any_eq_false]
  intro i hi
  rw [Bool.not_eq_true, List.any_eq_false]
  intro j hj
  rw [H.cross_none hn ha hi hj]
  simp
end
end MM
set_option maxRecDepth 100000
set_option maxHeartbeats 1000000
namespace MM
open PySem PySem.Spec PyProof.Rows L2
local instance tab_Mp21 : Tabl := tab0
local macro_rules | `(tactic| walk_at "w") => `(tactic| with_reducible first
  | refine e_var (by with_unfolding_all rfl) ?_ | refine e_c ?_ | refine e_m2 ?_ | refine e_m1 ?_ | refine e_new ?_ | refine e_ch ?_ | refine e_and ?_ | refine e_or ?_ | refine e_not ?_ | refine e_if ?_ | refine e_tup ?_ | refine e_lst ?_ | refine e_sl ?_ | refine e_app ?_
  | refine e_callR ?_ | refine e_call ?_ | refine e_comp ?_ | refine t_b1 ?_ | refine t_tr ?_ | refine t_an ?_ | refine t_or ?_ | refine t_no ?_ | refine t_true ?_ | refine a_nil ?_ | refine a_cons ?_ | refine a_pick ?_ | refine o_no ?_ | refine o_so ?_
  | refine s_nil ?_ | refine s_retn ?_ | refine s_brk ?_ | refine s_cnt ?_ | refine s_seq ?_ | refine s_set ?_ | refine s_expr ?_ | refine s_ret ?_ | refine s_if ?_ | refine s_asg ?_ | refine s_par ?_ | refine s_sub ?_ | refine f_fn ?_
  | refine n_then ?_ | refine n_thenr ?_ | refine n_thenb ?_ | refine n_thenc ?_ | refine n_endr ?_ | refine n_endn ?_ | refine n_turn ?_ | refine n_turnc ?_ | refine n_turnb ?_ | refine n_turnr ?_ | refine i_seq ?_ | refine i_zip ?_ | refine i_enm ?_ | refine i_rg1 ?_ | refine i_rg2 ?_
  | refine b_t ?_ | refine b_f ?_ | refine v_addI ?_ | refine v_sub ?_ | refine v_some ?_
  | refine v_mod (by first | assumption | decide | omega) ?_
  | refine v_div (by first | assumption | decide | omega) ?_
  | refine v_ix (by with_unfolding_all rfl) (by with_unfolding_all rfl) (by with_unfolding_all rfl) ?_
  | refine v_tupl (by with_unfolding_all rfl) ?_ | refine v_list (by with_unfolding_all rfl) ?_ | refine v_len (by with_unfolding_all rfl) (by with_unfolding_all rfl) ?_
  | refine v_mul (by first | assumption | exact okM_l (by decide) (by decide) | exact okM_r (by decide) (by decide) | exact okM_l (by omega) (by omega) | exact okM_r (by omega) (by omega)) ?_
  | refine v_eqI ?_ | refine v_neI ?_ | refine v_mk (by with_unfolding_all rfl) ?_
  | refine Exists.intro _ (And.intro (by with_unfolding_all rfl) ?_)
  | refine And.intro (by first | assumption | (with_unfolding_all exact Nat.le_of_ble_eq_true rfl) | (with_unfolding_all decide) | (with_unfolding_all rfl)) ?_
  | refine Exists.intro _ (Exists.intro _ (Exists.intro _ (And.intro (by with_unfolding_all rfl) (And.intro (by with_unfolding_all rfl) (And.intro (by with_unfolding_all rfl) ?_)))))
  | refine Exists.intro _ (Exists.intro _ (Exists.intro _ (Exists.intro _ (And.intro (by with_unfolding_all rfl) (And.intro (by with_unfolding_all rfl) (And.intro (by with_unfolding_all rfl) (And.intro (by with_unfolding_all rfl) ?_)))))))
  | refine b_eq (z := true) (by with_unfolding_all rfl) ?_ | refine b_eq (z := false) (by with_unfolding_all rfl) ?_)
local macro_rules | `(tactic| walk_at "v") => `(tactic| with_reducible first
  | walk_at "w" | refine e_recv ?_ | refine e_makeR ?_ | refine s_attr ?_ | refine e_rgL1 ?_ | refine s_for ?_)
/-! ### what the laws say of it -/
abbrev abc : List Str := [Str.ofString "a", Str.ofString "b", Str.ofString "c"]
theorem nm_of {ps ns : List Str} (hs : ∀ y ∈ ps, strOkD y = true) (h : NamesOk ps ns) : nmOk ns = true := by
  unfold nmOk
  rw [Bool.and_eq_true, decide_eq_true_eq, List.all_eq_true]
  exact ⟨Nat.le_trans h.sz (by decide), fun x hx => hs x (h.sub x hx)⟩
theorem ss_of {n : Nat} {ps : List Str} {rows : List Row} (hs : ∀ y ∈ ps, strOkD y = true) (hn : n ≤ 10) (R : RowsOk n ps rows) : SsOk rows where
  len := by rw [R.len]; exact hn
  nm r hr := nm_of hs (R.nm r hr)
  lo r hr := ⟨(R.lo r hr).1, (R.lo r hr).2.1⟩
  inc := R.inc
abbrev rulesL : List Str := [Str.ofString "whole", Str.ofString "fields", Str.ofString "check", Str.ofString "merge", Str.ofString "lock"]
theorem abc_ok : ∀ y ∈ abc, strOkD y = true := by decide +kernel
theorem v_neSelf {n : Nat} {x : D} {S : Store} {R : D → Prop} (h : D.ok n x = true) (hn : n ≤ 59) (q : R (.bl false)) : wV (fNe S x x) R := by
  refine ⟨_, ?_, q⟩
  unfold fNe
  rw [eqD_at h h S hn hn, PySem.SeqAt.eqv_refl _ (py_ok h).2.1]
  rfl
theorem v_eqSelf {n : Nat} {x : D} {S : Store} {R : D → Prop} (h : D.ok n x = true) (hn : n ≤ 59) (q : R (.bl true)) : wV (fEq S x x) R := by
  refine ⟨_, ?_, q⟩
  unfold fEq
  rw [eqD_at h h S hn hn, PySem.SeqAt.eqv_refl _ (py_ok h).2.1]
  rfl
theorem same_self {n : Nat} {x : D} (h : D.ok n x = true) (hn : n ≤ 13) : Rg (c_law_same 14) [x, x] (.bl true) := by
  have := same_ok (n := 13) (by decide) (ok_mono hn h) (ok_mono hn h)
  rw [D.beq_refl] at this
  exact this
theorem ok_nats {l : List Nat} (h : l.length ≤ 4000) : D.ok 1 (natsD l) = true := (ok_tupm (n := 0)).mpr ⟨h, fun _ _ => rfl⟩
theorem okn_nats {l : List Nat} (h : l.length ≤ 4000) : D.okn 1 (natsD l) = true := okn_tupm h fun _ _ => rfl
theorem natsD_inj {a b : List Nat} (h : natsD a = natsD b) : a = b := by
  unfold natsD at h
  have h2 : a.map (fun j : Nat => D.int (j : Int)) = b.map (fun j : Nat => D.int (j : Int)) := by injection h
  exact map_inj (fun x y e => by injection e with e; exact_mod_cast e) h2
theorem pures_rt2 {rows : List Row} {rule : Str} : D.pures [RT rows, .str rule] = true := by simp [D.pures, D.pure, pure_RT]
theorem pures_rt3 {rows : List Row} {rule : Str} {k : Int} : D.pures [RT rows, .str rule, .int k] = true := by simp [D.pures, D.pure, pure_RT]
theorem SsOk.pS {rows : List Row} (H : SsOk rows) : D.pure (lisD (RT rows)) = true := ok_pure H.okS
theorem SsOk.p2 {rows : List Row} {rule : Str} (H : SsOk rows) : D.pures [lisD (RT rows), .str rule] = true := by simp [D.pures, D.pure, H.pS]
theorem SsOk.p3 {rows : List Row} {rule : Str} {k : Int} (H : SsOk rows) : D.pures [lisD (RT rows), .str rule, .int k] = true := by simp [D.pures, D.pure, H.pS]
theorem taken_le {rows : List Row} {rule : Str} (H : SsOk rows) : (takenA rows rule).length ≤ 10 := Nat.le_trans taken_len H.len
theorem filter_le {l : List Nat} {c : Nat → Bool} {n : Nat} (h : l.length ≤ n) : (l.filter c).length ≤ n := Nat.le_trans (List.length_filter_le _ _) h
theorem left_sub {rows : List Row} {rule : Str} {k : Nat} : (couS rows rule (leftL rows.length k)).1.length ≤ rows.length := by
  have h := (run_inv (rows := rows) (rule := rule) (lineL rows rule (leftL rows.length k))).2.2.1
  rw [line_perm.length_eq] at h
  exact Nat.le_trans h left_len
end MM
set_option maxRecDepth 100000
set_option maxHeartbeats 1000000
namespace MM
open PySem PySem.Spec PyProof.Rows L2
local instance tab_Mp22 : Tabl := tab0
local macro_rules | `(tactic| walk_at "w") => `(tactic| with_reducible first
  | refine e_var (by with_unfolding_all rfl) ?_ | refine e_c ?_ | refine e_m2 ?_ | refine e_m1 ?_ | refine e_new ?_ | refine e_ch ?_ | refine e_and ?_ | refine e_or ?_ | refine e_not ?_ | refine e_if ?_ | refine e_tup ?_ | refine e_lst ?_ | refine e_sl ?_ | refine e_app ?_
  | refine e_callR ?_ | refine e_call ?_ | refine e_comp ?_ | refine t_b1 ?_ | refine t_tr ?_ | refine t_an ?_ | refine t_or ?_ | refine t_no ?_ | refine t_true ?_ | refine a_nil ?_ | refine a_cons ?_ | refine a_pick ?_ | refine o_no ?_ | refine o_so ?_
  | refine s_nil ?_ | refine s_retn ?_ | refine s_brk ?_ | refine s_cnt ?_ | refine s_seq ?_ | refine s_set ?_ | refine s_expr ?_ | refine s_ret ?_ | refine s_if ?_ | refine s_asg ?_ | refine s_par ?_ | refine s_sub ?_ | refine f_fn ?_
  | refine n_then ?_ | refine n_thenr ?_ | refine n_thenb ?_ | refine n_thenc ?_ | refine n_endr ?_ | refine n_endn ?_ | refine n_turn ?_ | refine n_turnc ?_ | refine n_turnb ?_ | refine n_turnr ?_ | refine i_seq ?_ | refine i_zip ?_ | refine i_enm ?_ | refine i_rg1 ?_ | refine i_rg2 ?_
  | refine b_t ?_ | refine b_f ?_ | refine v_addI ?_ | refine v_sub ?_ | refine v_some ?_
  | refine v_mod (by first | assumption | decide | omega) ?_
  | refine v_div (by first | assumption | decide | omega) ?_
  | refine v_ix (by with_unfolding_all rfl) (by with_unfolding_all rfl) (by with_unfolding_all rfl) ?_
  | refine v_tupl (by with_unfolding_all rfl) ?_ | refine v_list (by with_unfolding_all rfl) ?_ | refine v_len (by with_unfolding_all rfl) (by with_unfolding_all rfl) ?_
  | refine v_mul (by first | assumption | exact okM_l (by decide) (by decide) | exact okM_r (by decide) (by decide) | exact okM_l (by omega) (by omega) | exact okM_r (by omega) (by omega)) ?_
  | refine v_eqI ?_ | refine v_neI ?_ | refine v_mk (by with_unfolding_all rfl) ?_
  | refine Exists.intro _ (And.intro (by with_unfolding_all rfl) ?_)
  | refine And.intro (by first | assumption | (with_unfolding_all exact Nat.le_of_ble_eq_true rfl) | (with_unfolding_all decide) | (with_unfolding_all rfl)) ?_
  | refine Exists.intro _ (Exists.intro _ (Exists.intro _ (And.intro (by with_unfolding_all rfl) (And.intro (by with_unfolding_all rfl) (And.intro (by with_unfolding_all rfl) ?_)))))
  | refine Exists.intro _ (Exists.intro _ (Exists.intro _ (Exists.intro _ (And.intro (by with_unfolding_all rfl) (And.intro (by with_unfolding_all rfl) (And.intro (by with_unfolding_all rfl) (And.intro (by with_unfolding_all rfl) ?_)))))))
  | refine b_eq (z := true) (by with_unfolding_all rfl) ?_ | refine b_eq (z := false) (by with_unfolding_all rfl) ?_)
local macro_rules | `(tactic| walk_at "v") => `(tactic| with_reducible first
  | walk_at "w" | refine e_recv ?_ | refine e_makeR ?_ | refine s_attr ?_ | refine e_rgL1 ?_ | refine s_for ?_)
/-! ### more steps of the laws -/
theorem accepted_nat {d : D} {rows : List Row} {rule : Str} (hd : D.ok 13 d = true) (t : tupD d = RT rows) (hr : strOkD rule = true) (R : RwOk rows) : Rg c_accepted [d, .str rule] (natsD (takenA rows rule)) := by
  have h := accepted_ok hd t hr R
  rw [letD_eq] at h
  exact h
theorem v_inI {j : Nat} {l : List Nat} {S : Store} {R : D → Prop} (q : R (.bl (decide (j ∈ l)))) : wV (fIn S (.int (j : Int)) (.tup (l.map fun k : Nat => .int (k : Int)))) R := by
  refine ⟨_, ?_, q⟩
  unfold fIn inD
  have e : inV (V.int (j : Int)) (l.map fun k : Nat => V.int (k : Int)) = decide (j ∈ l) := by
    unfold inV
    rw [List.any_map, Bool.eq_iff_iff, List.any_eq_true, decide_eq_true_eq]
    refine ⟨fun ⟨x, hx, e⟩ => ?_, fun h => ⟨j, h, show ((j : Int) == (j : Int)) = true from beq_self_eq_true _⟩⟩
    have e : ((x : Int) == (j : Int)) = true := e
    have := beq_iff_eq.mp e
    have : x = j := by exact_mod_cast this
    rw [← this]; exact hx
  have e2 : ((seqOf S (.tup (l.map fun k : Nat => .int (k : Int)))).bind fun xs => xs.mapM flatD) = some (l.map fun k : Nat => V.int (k : Int)) := mapM_flatI (f := fun k : Nat => (k : Int)) l
  split
  · rename_i h; cases h
  · rw [show flatD (.int (j : Int)) = some (V.int (j : Int)) from rfl, e2]
    exact congrArg (fun z => some (D.bl z)) e
theorem v_neS {a b : Str} {S : Store} {R : D → Prop} (ha : strOkD a = true) (hb : strOkD b = true) (q : R (.bl (!decide (a = b)))) : wV (fNe S (.str a) (.str b)) R := by
  refine v_ne (n := 0) (m := 0) ha hb ?_
  rw [beq_dec]
  rw [show decide (D.str a = D.str b) = decide (a = b) from by rw [Bool.eq_iff_iff, decide_eq_true_eq, decide_eq_true_eq]; exact ⟨fun h => by injection h, fun h => by rw [h]⟩]
  exact q
theorem v_eqNilX {n : Nat} {xs : List D} {S : Store} {R : D → Prop} (hx : ∀ x ∈ xs, D.okn n x = true) (hl : xs.length ≤ 4000) (hn : n ≤ 58) (q : R (.bl xs.isEmpty)) : wV (fEq S (.lst xs) (.lst [])) R := by
  refine v_eq (n := n + 1) (m := 1) (okn_lst.mpr ⟨n, rfl, hl, hx⟩) rfl ?_ (by omega)
  rw [beq_dec]
  rw [show decide (D.lst xs = D.lst []) = xs.isEmpty from by cases xs <;> simp]
  exact q
theorem okn_pair2 (p : Nat × Nat) : D.okn 1 (encP p) = true := rfl
theorem look_mem {k : Int} : ∀ {od : List (Nat × Int)}, (∃ p ∈ od, (p.1 : Int) = k) → ∃ p ∈ od, (p.1 : Int) = k ∧ lookI k od = p.2
  | [], ⟨p, hp, _⟩ => by cases hp
  | q :: od, h => by
    unfold lookI
    by_cases e : (q.1 : Int) = k
    · exact ⟨q, by simp, e, if_pos e⟩
    · rw [if_neg e]
      obtain ⟨p, hp, h2⟩ := h
      rcases List.mem_cons.mp hp with z | z
      · exact absurd (z ▸ h2) e
      · obtain ⟨r, hr, h3, h4⟩ := look_mem ⟨p, z, h2⟩
        exact ⟨r, by simp [hr], h3, h4⟩
theorem common_comm {a b : List Str} (h : 0 < (commonL a b).length) : 0 < (commonL b a).length := by
  obtain ⟨x, hx⟩ := List.exists_mem_of_length_pos h
  unfold commonL at hx
  obtain ⟨h1, h2⟩ := List.mem_filter.mp hx
  exact List.length_pos_of_mem (a := x) (List.mem_filter.mpr ⟨by simpa using h2, by simpa using h1⟩)
theorem refused_rg {d : D} {rows : List Row} {rule : Str} (hd : D.ok 13 d = true) (t : tupD d = RT rows) (hr : strOkD rule = true) (R : RwOk rows) : Rg c_refused [d, .str rule] (.lst (refL (allS rows rule).2)) := rg_of_new (pure_refL _) (refused_ok hd t hr R)
theorem crossings_rg {d : D} {rows : List Row} (hd : D.ok 13 d = true) (t : tupD d = RT rows) (hl : rows.length < 64) : Rg c_crossings [d] (.lst ((crossP rows).map encP)) := rg_of_new (pure_pairs _) (crossings_ok hd t hl)
abbrev sWhole : Str := Str.ofString "whole"
abbrev sFields : Str := Str.ofString "fields"
theorem whole_ne : sWhole ≠ sLock ∧ sWhole ≠ sCheck ∧ sWhole ≠ sMerge := by decide +kernel
theorem fields_ne : sFields ≠ sLock ∧ sFields ≠ sCheck ∧ sFields ≠ sMerge := by decide +kernel
theorem taken_whole (rows : List Row) : takenA rows sWhole = upto rows.length := taken_free whole_ne.1 whole_ne.2.1 whole_ne.2.2
theorem taken_fields (rows : List Row) : takenA rows sFields = upto rows.length := taken_free fields_ne.1 fields_ne.2.1 fields_ne.2.2
/-- who crosses nobody -/
theorem alone_whole {rows : List Row} (H : SsOk rows) : aloneL rows sWhole = (upto rows.length).filter fun k => ((crossP rows).filter fun p => decide (k ∈ [p.1, p.2])).isEmpty := by
  unfold aloneL
  rw [taken_whole]
  refine List.filter_congr fun k hk => ?_
  rw [mem_upto] at hk
  rw [Bool.eq_iff_iff, decide_eq_true_eq, List.isEmpty_iff, List.filter_eq_nil_iff, mem_crossed]
  constructor
  · intro h p hp hin
    obtain ⟨h1, h2, h3⟩ := mem_crossP.mp hp
    rw [decide_eq_true_eq] at hin
    rcases List.mem_cons.mp hin with e | e
    · exact h ⟨mem_upto.mpr hk, p.2, mem_upto.mpr h2, by rw [cross_amid hk h2, e, h3]; rfl⟩
    · have e := List.mem_singleton.mp e
      exact h ⟨mem_upto.mpr hk, p.1, mem_upto.mpr h1, by rw [cross_amid hk h1, e, h3, Bool.or_true]⟩
  · rintro h ⟨_, j, hj, hc⟩
    rw [mem_upto] at hj
    rw [cross_amid hk hj, Bool.or_eq_true] at hc
    rcases hc with hc | hc
    · exact h (k, j) (mem_crossP.mpr ⟨hk, hj, hc⟩) (by simp)
    · exact h (j, k) (mem_crossP.mpr ⟨hj, hk, hc⟩) (by simp)
end MM
set_option maxRecDepth 100000
set_option maxHeartbeats 1000000
namespace MM
open PySem PySem.Spec PyProof.Rows L2
local instance tab_Mp23 : Tabl := tab0
local macro_rules | `(tactic| walk_at "w") => `(tactic| with_reducible first
  | refine e_var (by with_unfolding_all rfl) ?_ | refine e_c ?_ | refine e_m2 ?_ | refine e_m1 ?_ | refine e_new ?_ | refine e_ch ?_ | refine e_and ?_ | refine e_or ?_ | refine e_not ?_ | refine e_if ?_ | refine e_tup ?_ | refine e_lst ?_ | refine e_sl ?_ | refine e_app ?_
  | refine e_callR ?_ | refine e_call ?_ | refine e_comp ?_ | refine t_b1 ?_ | refine t_tr ?_ | refine t_an ?_ | refine t_or ?_ | refine t_no ?_ | refine t_true ?_ | refine a_nil ?_ | refine a_cons ?_ | refine a_pick ?_ | refine o_no ?_ | refine o_so ?_
  | refine s_nil ?_ | refine s_retn ?_ | refine s_brk ?_ | refine s_cnt ?_ | refine s_seq ?_ | refine s_set ?_ | refine s_expr ?_ | refine s_ret ?_ | refine s_if ?_ | refine s_asg ?_ | refine s_par ?_ | refine s_sub ?_ | refine f_fn ?_
  | refine n_then ?_ | refine n_thenr ?_ | refine n_thenb ?_ | refine n_thenc ?_ | refine n_endr ?_ | refine n_endn ?_ | refine n_turn ?_ | refine n_turnc ?_ | refine n_turnb ?_ | refine n_turnr ?_ | refine i_seq ?_ | refine i_zip ?_ | refine i_enm ?_ | refine i_rg1 ?_ | refine i_rg2 ?_
  | refine b_t ?_ | refine b_f ?_ | refine v_addI ?_ | refine v_sub ?_ | refine v_some ?_
  | refine v_mod (by first | assumption | decide | omega) ?_
  | refine v_div (by first | assumption | decide | omega) ?_
  | refine v_ix (by with_unfolding_all rfl) (by with_unfolding_all rfl) (by with_unfolding_all rfl) ?_
  | refine v_tupl (by with_unfolding_all rfl) ?_ | refine v_list (by with_unfolding_all rfl) ?_ | refine v_len (by with_unfolding_all rfl) (by with_unfolding_all rfl) ?_
  | refine v_mul (by first | assumption | exact okM_l (by decide) (by decide) | exact okM_r (by decide) (by decide) | exact okM_l (by omega) (by omega) | exact okM_r (by omega) (by omega)) ?_
  | refine v_eqI ?_ | refine v_neI ?_ | refine v_mk (by with_unfolding_all rfl) ?_
  | refine Exists.intro _ (And.intro (by with_unfolding_all rfl) ?_)
  | refine And.intro (by first | assumption | (with_unfolding_all exact Nat.le_of_ble_eq_true rfl) | (with_unfolding_all decide) | (with_unfolding_all rfl)) ?_
  | refine Exists.intro _ (Exists.intro _ (Exists.intro _ (And.intro (by with_unfolding_all rfl) (And.intro (by with_unfolding_all rfl) (And.intro (by with_unfolding_all rfl) ?_)))))
  | refine Exists.intro _ (Exists.intro _ (Exists.intro _ (Exists.intro _ (And.intro (by with_unfolding_all rfl) (And.intro (by with_unfolding_all rfl) (And.intro (by with_unfolding_all rfl) (And.intro (by with_unfolding_all rfl) ?_)))))))
  | refine b_eq (z := true) (by with_unfolding_all rfl) ?_ | refine b_eq (z := false) (by with_unfolding_all rfl) ?_)
local macro_rules | `(tactic| walk_at "v") => `(tactic| with_reducible first
  | walk_at "w" | refine e_recv ?_ | refine e_makeR ?_ | refine s_attr ?_ | refine e_rgL1 ?_ | refine s_for ?_)
/-! ### going through a part, or through rows that were moved -/
theorem minB_le {bars : List Nat} {j : Nat} (h : j ∈ bars) : minB bars ≤ (j : Int) := by
  have key : ∀ (l : List Int) (x : Int), l.foldl (fun m y => if y < m then y else m) x ≤ x ∧ ∀ y ∈ l, l.foldl (fun m y => if y < m then y else m) x ≤ y := by
    intro l
    induction l with
    | nil => intro x; exact ⟨Int.le_refl _, fun _ h => by cases h⟩
    | cons y l ih =>
      intro x
      rw [List.foldl_cons]
      split
      · rename_i hyx
        have h2 := ih y
        refine ⟨by omega, fun z hz => ?_⟩
        rcases List.mem_cons.mp hz with e | e
        · rw [e]; exact h2.1
        · exact h2.2 z e
      · rename_i hyx
        have h2 := ih x
        refine ⟨h2.1, fun z hz => ?_⟩
        rcases List.mem_cons.mp hz with e | e
        · rw [e]; omega
        · exact h2.2 z e
  cases bars with
  | nil => cases h
  | cons x l =>
    unfold minB minI
    simp only [List.map_cons, Option.getD_some]
    rcases List.mem_cons.mp h with e | e
    · rw [e]; exact (key _ _).1
    · exact (key _ _).2 _ (List.mem_map.mpr ⟨j, e, rfl⟩)
theorem minB_map {bars : List Nat} {f : Nat → Nat} (hb : bars ≠ []) (hf : ∀ a ∈ bars, ∀ b ∈ bars, a < b → f a < f b) : minB (bars.map f) = ((f (minB bars).toNat : Nat) : Int) := by
  obtain ⟨m, hm, em⟩ := minB_mem hb
  obtain ⟨x, hx, ex⟩ := minB_mem (bars := bars.map f) (by simpa using hb)
  obtain ⟨j, hj, rfl⟩ := List.mem_map.mp hx
  have h1 := minB_le hj
  have h2 := minB_le (List.mem_map.mpr ⟨m, hm, rfl⟩ : f m ∈ bars.map f)
  rw [em] at h1 ⊢
  rw [ex] at h2 ⊢
  rw [Int.toNat_natCast]
  rcases Nat.lt_trichotomy m j with h | h | h
  · have := hf m hm j hj h; omega
  · rw [h]
  · omega
def refF (f : Nat → Nat) (p : Nat × Int) : Nat × Int := (f p.1, ((f p.2.toNat : Nat) : Int))
theorem reloc {rows rows' : List Row} {rule : Str} {f : Nat → Nat} {line : List Nat} (hf : ∀ a ∈ line, ∀ b ∈ line, a < b → f a < f b) (hst : ∀ a ∈ line, ∀ b ∈ line, standsAt rows rule (f a) (f b) = standsAt rows' rule a b) {T0 : List Nat} {od0 : List (Nat × Int)} (h0 : ∀ j ∈ T0, ∀ k ∈ line, standsAt rows rule j (f k) = false) :
    (line.map f).foldl (comeL rows rule) (T0, od0) = (T0 ++ (runL rows' rule line).1.map f, od0 ++ (runL rows' rule line).2.map (refF f)) := by
  suffices h : ∀ (post pre : List Nat), pre ++ post = line → (post.map f).foldl (comeL rows rule) (T0 ++ (runL rows' rule pre).1.map f, od0 ++ (runL rows' rule pre).2.map (refF f)) = (T0 ++ (runL rows' rule line).1.map f, od0 ++ (runL rows' rule line).2.map (refF f)) by
    have := h line [] rfl
    simpa [runL] using this
  intro post
  induction post with
  | nil => intro pre e; rw [List.append_nil] at e; rw [e]; rfl
  | cons k post ih =>
    intro pre e
    have hk : k ∈ line := by rw [← e]; simp
    have hsub : ∀ j ∈ (runL rows' rule pre).1, j ∈ line := fun j hj => by rw [← e]; exact List.mem_append_left _ ((run_inv pre).1 j hj)
    have eb : barsL rows rule (T0 ++ (runL rows' rule pre).1.map f) (f k) = (barsL rows' rule (runL rows' rule pre).1 k).map f := by
      unfold barsL
      rw [List.filter_append, List.filter_eq_nil_iff.mpr fun j hj => by rw [h0 j hj k hk]; simp, List.nil_append, List.filter_map]
      congr 1
      exact List.filter_congr fun j hj => hst j (hsub j hj) k hk
    rw [List.map_cons, List.foldl_cons]
    rw [← ih (pre ++ [k]) (by simp [e]), runL_snoc]
    congr 1
    unfold comeL
    dsimp only
    rw [eb]
    cases hb : barsL rows' rule (runL rows' rule pre).1 k with
    | nil => simp
    | cons b bs =>
      have hne : barsL rows' rule (runL rows' rule pre).1 k ≠ [] := by rw [hb]; simp
      have hmn := minB_map (f := f) hne fun a ha c hc hac => by
        unfold barsL at ha hc
        exact hf a (hsub a (List.mem_filter.mp ha).1) c (hsub c (List.mem_filter.mp hc).1) hac
      rw [hb] at hmn
      simp [refF] at hmn ⊢
      exact hmn
/-- rows that were looked at first, then others against which these do not stand -/
theorem run_part {rows rows' : List Row} {rule : Str} {f : Nat → Nat} {line : List Nat} (hf : ∀ a ∈ line, ∀ b ∈ line, a < b → f a < f b) (hst : ∀ a ∈ line, ∀ b ∈ line, standsAt rows rule (f a) (f b) = standsAt rows' rule a b) :
    runL rows rule (line.map f) = ((runL rows' rule line).1.map f, (runL rows' rule line).2.map (refF f)) := by
  have := reloc (T0 := []) (od0 := []) hf hst (by simp)
  simpa [runL] using this
theorem run_append {rows : List Row} {rule : Str} {a b : List Nat} : runL rows rule (a ++ b) = b.foldl (comeL rows rule) (runL rows rule a) := by
  unfold runL
  rw [List.foldl_append]
/-- whatever comes later leaves what was told, and adds of its own -/
theorem fold_more {rows : List Row} {rule : Str} : ∀ (b : List Nat) (s : CoS), ∃ T od, b.foldl (comeL rows rule) s = (s.1 ++ T, s.2 ++ od) ∧ (∀ j ∈ T, j ∈ b) ∧ ∀ p ∈ od, p.1 ∈ b
  | [], s => ⟨[], [], by simp, by simp, by simp⟩
  | k :: b, s => by
    obtain ⟨T, od, e, h1, h2⟩ := fold_more b (comeL rows rule s k)
    rw [List.foldl_cons, e]
    unfold comeL
    split
    · exact ⟨k :: T, od, by simp, fun j hj => by rcases List.mem_cons.mp hj with z | z; simp [z]; simp [h1 j z], fun p hp => by simp [h2 p hp]⟩
    · exact ⟨T, (k, minB (barsL rows rule s.1 k)) :: od, by simp, fun j hj => by simp [h1 j hj], fun p hp => by rcases List.mem_cons.mp hp with z | z; simp [z]; simp [h2 p z]⟩
theorem refk_fold {rows : List Row} {rule : Str} : ∀ (l : List Nat) (s : CoS), ((l.foldl (comeL rows rule) s).2.map (·.1)).Sublist (s.2.map (·.1) ++ l)
  | [], s => by simp
  | k :: l, s => by
    rw [List.foldl_cons]
    refine (refk_fold l (comeL rows rule s k)).trans ?_
    unfold comeL
    split
    · exact (List.Sublist.refl _).append (List.sublist_cons_self k l)
    · simp
theorem refk_sub {rows : List Row} {rule : Str} (l : List Nat) : ((runL rows rule l).2.map (·.1)).Sublist l := by
  have := refk_fold (rows := rows) (rule := rule) l ([], [])
  simpa [runL] using this
theorem refk_nodup {rows : List Row} {rule : Str} : ((allS rows rule).2.map (·.1)).Nodup := line_nodup.sublist (refk_sub _)
/-! the refused ones, in order -/
def refS (od : List (Nat × Int)) : List (Nat × Int) := (lettN (od.map (·.1))).map fun k => (k, lookI k od)
def encI (p : Nat × Int) : D := .tup [.int (p.1 : Int), .int p.2]
theorem refL_eq (od : List (Nat × Int)) : refL od = (refS od).map encI := by
  unfold refL refS keysI lettN
  rw [List.map_map, List.map_map, List.map_map]
  refine List.map_congr_left fun x hx => ?_
  have hx2 : x ∈ (od.map (·.1)).map fun k : Nat => (k : Int) := by
    have := (sortI_perm _).mem_iff.mp hx
    simpa [List.map_map, Function.comp_def] using this
  obtain ⟨k, _, rfl⟩ := List.mem_map.mp hx2
  rfl
theorem keys_inj : ∀ {od : List (Nat × Int)}, (od.map (·.1)).Nodup → ∀ {p q : Nat × Int}, p ∈ od → q ∈ od → p.1 = q.1 → p = q
  | [], _, p, q, hp, _, _ => by cases hp
  | x :: od, hn, p, q, hp, hq, e => by
    rw [List.map_cons, List.nodup_cons] at hn
    rcases List.mem_cons.mp hp with z | z
    · rcases List.mem_cons.mp hq with w | w
      · rw [z, w]
      · exact absurd (List.mem_map.mpr ⟨q, w, by rw [← e, z]⟩) hn.1
    · rcases List.mem_cons.mp hq with w | w
      · exact absurd (List.mem_map.mpr ⟨p, z, by rw [e, w]⟩) hn.1
      · exact keys_inj hn.2 z w e
theorem mem_refS {od : List (Nat × Int)} (hn : (od.map (·.1)).Nodup) {p : Nat × Int} : p ∈ refS od ↔ p ∈ od := by
  unfold refS
  rw [List.mem_map]
  constructor
  · rintro ⟨k, hk, rfl⟩
    obtain ⟨q, hq, e⟩ := List.mem_map.mp (mem_lettN.mp hk)
    obtain ⟨r, hr, h1, h2⟩ := look_mem (k := (k : Int)) ⟨q, hq, by rw [← e]⟩
    rw [h2]
    have : r.1 = k := by exact_mod_cast h1
    rw [← this]
    exact hr
  · intro hp
    refine ⟨p.1, mem_lettN.mpr (List.mem_map.mpr ⟨p, hp, rfl⟩), ?_⟩
    obtain ⟨r, hr, h1, h2⟩ := look_mem (k := (p.1 : Int)) ⟨p, hp, rfl⟩
    have : r = p := keys_inj hn hr hp (by exact_mod_cast h1)
    rw [h2, this]
theorem refS_asc {od : List (Nat × Int)} (hn : (od.map (·.1)).Nodup) : (refS od).Pairwise fun p q => p.1 < q.1 := by
  unfold refS
  rw [List.pairwise_map]
  exact lettN_asc hn
theorem ref_ext : ∀ {a b : List (Nat × Int)}, a.Pairwise (fun p q => p.1 < q.1) → b.Pairwise (fun p q => p.1 < q.1) → (∀ x, x ∈ a ↔ x ∈ b) → a = b
  | [], [], _, _, _ => rfl
  | [], y :: b, _, _, h => by have := (h y).mpr (by simp); simp at this
  | x :: a, [], _, _, h => by have := (h x).mp (by simp); simp at this
  | x :: a, y :: b, h1, h2, h => by
    have p1 := List.pairwise_cons.mp h1
    have p2 := List.pairwise_cons.mp h2
    have hx := (h x).mp (by simp)
    have hy := (h y).mpr (by simp)
    have e : x = y := by
      rcases List.mem_cons.mp hx with h' | h'
      · exact h'
      · rcases List.mem_cons.mp hy with h'' | h''
        · exact h''.symm
        · have := p1.1 y h''
          have := p2.1 x h'
          omega
    subst e
    rw [ref_ext p1.2 p2.2 fun z => ?_]
    constructor
    · intro hz
      rcases List.mem_cons.mp ((h z).mp (by simp [hz])) with e | e
      · have := p1.1 z hz; rw [e] at this; omega
      · exact e
    · intro hz
      rcases List.mem_cons.mp ((h z).mpr (by simp [hz])) with e | e
      · have := p2.1 z hz; rw [e] at this; omega
      · exact e
end MM
set_option maxRecDepth 100000
set_option maxHeartbeats 1000000
namespace MM
open PySem PySem.Spec PyProof.Rows L2
local instance tab_Mq1 : Tabl := tab0
local macro_rules | `(tactic| walk_at "w") => `(tactic| with_reducible first
  | refine e_var (by with_unfolding_all rfl) ?_ | refine e_c ?_ | refine e_m2 ?_ | refine e_m1 ?_ | refine e_new ?_ | refine e_ch ?_ | refine e_and ?_ | refine e_or ?_ | refine e_not ?_ | refine e_if ?_ | refine e_tup ?_ | refine e_lst ?_ | refine e_sl ?_ | refine e_app ?_
  | refine e_callR ?_ | refine e_call ?_ | refine e_comp ?_ | refine t_b1 ?_ | refine t_tr ?_ | refine t_an ?_ | refine t_or ?_ | refine t_no ?_ | refine t_true ?_ | refine a_nil ?_ | refine a_cons ?_ | refine a_pick ?_ | refine o_no ?_ | refine o_so ?_
  | refine s_nil ?_ | refine s_retn ?_ | refine s_brk ?_ | refine s_cnt ?_ | refine s_seq ?_ | refine s_set ?_ | refine s_expr ?_ | refine s_ret ?_ | refine s_if ?_ | refine s_asg ?_ | refine s_par ?_ | refine s_sub ?_ | refine f_fn ?_
  | refine n_then ?_ | refine n_thenr ?_ | refine n_thenb ?_ | refine n_thenc ?_ | refine n_endr ?_ | refine n_endn ?_ | refine n_turn ?_ | refine n_turnc ?_ | refine n_turnb ?_ | refine n_turnr ?_ | refine i_seq ?_ | refine i_zip ?_ | refine i_enm ?_ | refine i_rg1 ?_ | refine i_rg2 ?_
  | refine b_t ?_ | refine b_f ?_ | refine v_addI ?_ | refine v_sub ?_ | refine v_some ?_
  | refine v_mod (by first | assumption | decide | omega) ?_
  | refine v_div (by first | assumption | decide | omega) ?_
  | refine v_ix (by with_unfolding_all rfl) (by with_unfolding_all rfl) (by with_unfolding_all rfl) ?_
  | refine v_tupl (by with_unfolding_all rfl) ?_ | refine v_list (by with_unfolding_all rfl) ?_ | refine v_len (by with_unfolding_all rfl) (by with_unfolding_all rfl) ?_
  | refine v_mul (by first | assumption | exact okM_l (by decide) (by decide) | exact okM_r (by decide) (by decide) | exact okM_l (by omega) (by omega) | exact okM_r (by omega) (by omega)) ?_
  | refine v_eqI ?_ | refine v_neI ?_ | refine v_mk (by with_unfolding_all rfl) ?_
  | refine Exists.intro _ (And.intro (by with_unfolding_all rfl) ?_)
  | refine And.intro (by first | assumption | (with_unfolding_all exact Nat.le_of_ble_eq_true rfl) | (with_unfolding_all decide) | (with_unfolding_all rfl)) ?_
  | refine Exists.intro _ (Exists.intro _ (Exists.intro _ (And.intro (by with_unfolding_all rfl) (And.intro (by with_unfolding_all rfl) (And.intro (by with_unfolding_all rfl) ?_)))))
  | refine Exists.intro _ (Exists.intro _ (Exists.intro _ (Exists.intro _ (And.intro (by with_unfolding_all rfl) (And.intro (by with_unfolding_all rfl) (And.intro (by with_unfolding_all rfl) (And.intro (by with_unfolding_all rfl) ?_)))))))
  | refine b_eq (z := true) (by with_unfolding_all rfl) ?_ | refine b_eq (z := false) (by with_unfolding_all rfl) ?_)
local macro_rules | `(tactic| walk_at "v") => `(tactic| with_reducible first
  | walk_at "w" | refine e_recv ?_ | refine e_makeR ?_ | refine s_attr ?_ | refine e_rgL1 ?_ | refine s_for ?_)
theorem and_le {a b : Nat} {P : Prop} (h : Nat.ble a b = true) (p : P) : a ≤ b ∧ P := ⟨Nat.le_of_ble_eq_true h, p⟩
theorem and_eq {α : Type} {a b : α} {P : Prop} (h : a = b) (p : P) : a = b ∧ P := ⟨h, p⟩
theorem and_as {A P : Prop} (h : A) (p : P) : A ∧ P := ⟨h, p⟩
theorem and_rg {a b c d : Int} {P : Prop} (h : (decide (a ≤ b) && decide (c ≤ d)) = true) (p : P) : (a ≤ b ∧ c ≤ d) ∧ P := ⟨by simpa using h, p⟩
end MM
set_option maxRecDepth 100000
set_option maxHeartbeats 4000000
namespace MM
open PySem PySem.Spec PyProof.Rows L2
abbrev m_law_box : Fn := c_law_box
abbrev m_law_cells : Fn := c_law_cells
abbrev m_law_take : Fn := c_law_take
abbrev m_law_of : Fn := c_law_of
abbrev m_law_sessions : Fn := c_law_sessions
abbrev m_tupled : Nat → Fn := c_tupled
abbrev m_Sessions_init : Fn := c_Sessions_init
abbrev m_Sessions_check : Fn := c_Sessions_check
abbrev m_Sessions_opening : Fn := c_Sessions_opening
abbrev m_Sessions_saving : Fn := c_Sessions_saving
abbrev m_Course_let_by : Fn := c_Course_let_by
abbrev m_Sessions_numbers : Fn := c_Sessions_numbers
abbrev m_Course_order : Fn := c_Course_order
abbrev m_Sessions_is_between : Fn := c_Sessions_is_between
abbrev m_Sessions_names : Fn := c_Sessions_names
abbrev m_Sessions_common : Fn := c_Sessions_common
abbrev m_Course_stands_against : Fn := c_Course_stands_against
abbrev m_Course_come : Fn := c_Course_come
abbrev m_Course_init : Fn := c_Course_init
abbrev m_course_of : Fn := c_course_of
abbrev m_accepted : Fn := c_accepted
abbrev m_seen_by : Fn := c_seen_by
abbrev m_without : Fn := c_without
abbrev m_alone : Fn := c_alone
abbrev m_law_same : Nat → Fn := c_law_same
def m_law_known_right : Fn := fnM 4 (sSeq (sSet 0 (mTup (aCons (mTup (aCons (mC (.int 0)) (aCons (mC (.int 3)) (aCons (mTup (aCons (mC (.str (Str.ofString "a"))) aNil)) aNil)))) (aCons (mTup (aCons (mC (.int 1)) (aCons (mC (.int 4)) (aCons (mTup (aCons (mC (.str (Str.ofString "b"))) aNil)) aNil)))) (aCons (mTup (aCons (mC (.int 3)) (aCons (mC (.int 6)) (aCons (mTup (aCons (mC (.str (Str.ofString "a"))) (aCons (mC (.str (Str.ofString "b"))) aNil))) aNil)))) (aCons (mTup (aCons (mC (.int 5)) (aCons (mC (.int 8)) (aCons (mTup (aCons (mC (.str (Str.ofString "b"))) aNil)) aNil)))) aNil))))))
  (sSeq (sSet 1 (mLst (aCons (mCallR false m_seen_by 3 (aCons (mVar 0) (aCons (mC (.str (Str.ofString "whole"))) (aCons (mC (.int 3)) aNil)))) (aCons (mCallR false m_seen_by 3 (aCons (mVar 0) (aCons (mC (.str (Str.ofString "check"))) (aCons (mC (.int 3)) aNil)))) (aCons (mCallR false m_seen_by 3 (aCons (mVar 0) (aCons (mC (.str (Str.ofString "lock"))) (aCons (mC (.int 2)) aNil)))) (aCons (mCallR false m_seen_by 3 (aCons (mVar 0) (aCons (mC (.str (Str.ofString "merge"))) (aCons (mC (.int 0)) aNil)))) aNil))))))
  (sSeq (sSet 1 (m2 fAddL (mVar 1) (mLst (aCons (mCallR false m_without 3 (aCons (mVar 0) (aCons (mC (.str (Str.ofString "check"))) (aCons (mC (.int 0)) aNil)))) (aCons (mCallR false m_without 3 (aCons (mVar 0) (aCons (mC (.str (Str.ofString "merge"))) (aCons (mC (.int 1)) aNil)))) (aCons (mCallR false m_without 3 (aCons (mVar 0) (aCons (mC (.str (Str.ofString "lock"))) (aCons (mC (.int 1)) aNil)))) aNil))))))
  (sSeq (sSet 1 (m2 fAddL (mVar 1) (mLst (aCons (mCallR false m_without 3 (aCons (mVar 0) (aCons (mC (.str (Str.ofString "whole"))) (aCons (mC (.int 2)) aNil)))) (aCons (mCallR false m_without 3 (aCons (mVar 0) (aCons (mC (.str (Str.ofString "check"))) (aCons (mC (.int 1)) aNil)))) aNil)))))
  (sSeq (sSet 1 (m2 fAddL (mVar 1) (mLst (aCons (mCallR false m_alone 2 (aCons (mVar 0) (aCons (mC (.str (Str.ofString "merge"))) aNil))) (aCons (mCallR false m_alone 2 (aCons (mVar 0) (aCons (mC (.str (Str.ofString "fields"))) aNil))) (aCons (mCallR false m_alone 2 (aCons (mVar 0) (aCons (mC (.str (Str.ofString "check"))) aNil))) (aCons (mCallR false m_alone 2 (aCons (mTup aNil) (aCons (mC (.str (Str.ofString "lock"))) aNil))) aNil)))))))
  (sSeq (sSet 2 (mLst (aCons (mTup (aCons (mC (.int 0)) (aCons (mC (.int 1)) aNil))) (aCons (mTup (aCons (mC (.int 0)) aNil)) (aCons (mTup (aCons (mC (.int 0)) aNil)) (aCons (mTup aNil) (aCons (mTup (aCons (mTup (aCons (mC (.int 1)) (aCons (mC (.int 3)) aNil))) (aCons (mTup (aCons (mC (.int 2)) aNil)) aNil))) (aCons (mTup (aCons (mTup (aCons (mC (.int 2)) aNil)) (aCons (mTup (aCons (mC (.int 3)) aNil)) aNil))) (aCons (mTup (aCons (mTup aNil) (aCons (mTup aNil) aNil))) (aCons (mTup (aCons (mTup aNil) (aCons (mTup aNil) aNil))) (aCons (mTup (aCons (mTup aNil) (aCons (mTup aNil) aNil))) (aCons (mTup (aCons (mC (.int 3)) aNil)) (aCons (mTup aNil) (aCons (mTup (aCons (mC (.int 0)) (aCons (mC (.int 2)) aNil))) (aCons (mTup aNil) aNil)))))))))))))))
  (sSeq (sSet 3 (mTup (aCons (mTup (aCons (mC (.int 3)) (aCons (mC (.int 4)) (aCons (mTup (aCons (mC (.str (Str.ofString "a"))) aNil)) aNil)))) (aCons (mTup (aCons (mC (.int 4)) (aCons (mC (.int 5)) (aCons (mTup (aCons (mC (.str (Str.ofString "b"))) aNil)) aNil)))) (aCons (mTup (aCons (mC (.int 0)) (aCons (mC (.int 6)) (aCons (mTup (aCons (mC (.str (Str.ofString "c"))) aNil)) aNil)))) (aCons (mTup (aCons (mC (.int 5)) (aCons (mC (.int 8)) (aCons (mTup (aCons (mC (.str (Str.ofString "a"))) aNil)) aNil)))) (aCons (mTup (aCons (mC (.int 6)) (aCons (mC (.int 9)) (aCons (mTup (aCons (mC (.str (Str.ofString "b"))) aNil)) aNil)))) aNil)))))))
  (sSeq (sSet 1 (m2 fAddL (mVar 1) (mLst (aCons (mCallR false m_without 3 (aCons (mVar 3) (aCons (mC (.str (Str.ofString "lock"))) (aCons (mC (.int 2)) aNil)))) (aCons (mCallR false m_without 3 (aCons (mVar 3) (aCons (mC (.str (Str.ofString "lock"))) (aCons (mC (.int 4)) aNil)))) (aCons (mCallR false m_seen_by 3 (aCons (mVar 3) (aCons (mC (.str (Str.ofString "lock"))) (aCons (mC (.int 4)) aNil)))) aNil))))))
  (sRet (mCallR false (m_law_same 14) 2 (aCons (mVar 1) (aCons (m2 fAddL (mVar 2) (mLst (aCons (mTup (aCons (mTup (aCons (mC (.int 0)) (aCons (mC (.int 1)) (aCons (mC (.int 3)) aNil)))) (aCons (mTup (aCons (mC (.int 4)) aNil)) aNil))) (aCons (mTup (aCons (mTup aNil) (aCons (mTup aNil) aNil))) (aCons (mTup (aCons (mC (.int 2)) aNil)) aNil))))) aNil))))))))))))
abbrev m_law_lists : Nat → Fn := c_law_lists
abbrev m_law_is_amid : Fn := c_law_is_amid
abbrev m_law_meet : Fn := c_law_meet
abbrev m_law_let : Fn := c_law_let
def m_law_one_right : Fn := fnM 12 (sSeq (sPar (aCons (mRgL1 (m1 fLen (mVar 0))) (aCons (mCallR false (m_law_lists 14) 1 (aCons (mVar 0) aNil)) aNil)) (pCons (pN 2) (pCons (pN 3) pNil)))
  (sSeq (sSet 4 (m2 fIx (mCallR false m_law_let 3 (aCons (mVar 0) (aCons (mVar 1) (aCons (mVar 2) aNil)))) (mC (.int 0))))
  (sSeq (sFor (iSeq (mVar 2)) (pN 5) (sSeq (sSet 6 (m1 fTuple (mComp (iSeq (mVar 4)) [7] (pN 7) (tB1 (m2 fLe (m2 fIx (m2 fIx (mVar 0) (mVar 7)) (mC (.int 1))) (m2 fIx (m2 fIx (mVar 0) (mVar 5)) (mC (.int 0))))) (mVar 7))))
  (sSeq (sSet 8 (mLst (aCons (mCallR false m_seen_by 3 (aCons (mVar 0) (aCons (mVar 1) (aCons (mVar 5) aNil)))) (aCons (mCallR false m_seen_by 3 (aPick 0 3 [2, 1, 0] aNil (aCons (mVar 5) (aCons (mVar 1) (aCons (mVar 3) aNil))))) aNil))))
  (sSeq (sIf (tNo (tTr (mCallR false (m_law_same 14) 2 (aCons (mVar 8) (aCons (mLst (aCons (mVar 6) (aCons (mVar 6) aNil))) aNil))))) (sRet (mC (.bl false))) sNil)
  (sSeq (sSet 9 (m2 fIx (mCallR false m_law_let 3 (aCons (mVar 0) (aCons (mVar 1) (aCons (mComp (iSeq (mVar 2)) [7] (pN 7) (tB1 (m2 fNe (mVar 7) (mVar 5))) (mVar 7)) aNil)))) (mC (.int 0))))
  (sSeq (sSet 10 (mTup (aCons (m1 fTuple (mComp (iSeq (mVar 9)) [7] (pN 7) (tB1 (m2 fNotIn (mVar 7) (mVar 4))) (mVar 7))) (aCons (m1 fTuple (mComp (iSeq (mVar 4)) [7] (pN 7) (tAn (tB1 (m2 fNotIn (mVar 7) (mVar 9))) (tB1 (m2 fNe (mVar 7) (mVar 5)))) (mVar 7))) aNil))))
  (sSeq (sSet 8 (mLst (aCons (mCallR false m_without 3 (aCons (mVar 0) (aCons (mVar 1) (aCons (mVar 5) aNil)))) (aCons (mCallR false m_without 3 (aPick 0 3 [2, 1, 0] aNil (aCons (mVar 5) (aCons (mVar 1) (aCons (mVar 3) aNil))))) aNil))))
  (sIf (tNo (tTr (mCallR false (m_law_same 14) 2 (aCons (mVar 8) (aCons (mLst (aCons (mVar 10) (aCons (mVar 10) aNil))) aNil))))) (sRet (mC (.bl false))) sNil))))))))
  (sSeq (sSet 10 (mLst aNil))
  (sSeq (sFor (iSeq (mVar 4)) (pN 5) (sSeq (sSet 11 (mComp (iSeq (mVar 4)) [7] (pN 7) (tOr' (tTr (mCallR false m_law_is_amid 3 (aCons (mVar 0) (aCons (mVar 7) (aCons (mVar 5) aNil))))) (tTr (mCallR false m_law_is_amid 3 (aCons (mVar 0) (aCons (mVar 5) (aCons (mVar 7) aNil)))))) (mVar 7)))
  (sSet 10 (m2 fAdd (mVar 10) (m2 fRepL (mLst (aCons (mVar 5) aNil)) (m1 fInt (m2 fEq (mVar 11) (mLst aNil))))))))
  (sSeq (sSet 8 (mLst (aCons (mCallR false m_alone 2 (aCons (mVar 0) (aCons (mVar 1) aNil))) (aCons (mCallR false m_alone 2 (aPick 0 2 [1, 0] aNil (aCons (mVar 1) (aCons (mVar 3) aNil)))) aNil))))
  (sRet (mAnd (mCallR false (m_law_same 14) 2 (aCons (mVar 8) (aCons (m2 fRepL (mLst (aCons (m1 fTuple (mVar 10)) aNil)) (mC (.int 2))) aNil))) (m2 fEq (mVar 3) (mCallR false (m_law_lists 14) 1 (aCons (mVar 0) aNil)))))))))))
def m_law_right : Fn := fnM 4 (sSeq (sIf (tNo (tTr (mCallR false m_law_known_right 0 aNil))) (sRet (mC (.bl false))) sNil)
  (sSeq (sFor (iRg1 (mC (.int 3))) (pN 1) (sSeq (sSet 2 (mCallR true m_law_sessions 3 (aCons (mVar 0) (aCons (mCallR true m_law_take 2 (aCons (mVar 0) (aCons (mC (.int 11)) aNil))) (aCons (mTup (aCons (mC (.str (Str.ofString "a"))) (aCons (mC (.str (Str.ofString "b"))) (aCons (mC (.str (Str.ofString "c"))) aNil)))) aNil)))))
  (sIf (tNo (tTr (m1 fAll (mComp (iSeq (mTup (aCons (mC (.str (Str.ofString "whole"))) (aCons (mC (.str (Str.ofString "fields"))) (aCons (mC (.str (Str.ofString "check"))) (aCons (mC (.str (Str.ofString "merge"))) (aCons (mC (.str (Str.ofString "lock"))) aNil))))))) [3] (pN 3) tTrue (mCallR false m_law_one_right 2 (aCons (mVar 2) (aCons (mVar 3) aNil))))))) (sRet (mC (.bl false))) sNil)))
  (sRet (mC (.bl true)))))
abbrev m_law : Fn := c_lawA m_law_right 3
end MM
set_option maxRecDepth 100000
set_option maxHeartbeats 1000000
namespace MM
open PySem PySem.Spec PyProof.Rows L2
local instance tab_Pq_k04 : Tabl := tab0
local macro_rules | `(tactic| walk_at "u") => `(tactic| with_reducible first
  | refine e_var (by with_unfolding_all eq_refl) ?_ | refine e_c ?_ | refine e_m2 ?_ | refine e_m1 ?_ | refine e_new ?_ | refine e_ch ?_ | refine e_and ?_ | refine e_or ?_ | refine e_not ?_ | refine e_if ?_ | refine e_tup ?_ | refine e_lst ?_ | refine e_sl ?_ | refine e_app ?_
  | refine e_callR ?_ | refine e_call ?_ | refine e_comp ?_ | refine t_b1 ?_ | refine t_tr ?_ | refine t_an ?_ | refine t_or ?_ | refine t_no ?_ | refine t_true ?_ | refine a_nil ?_ | refine a_cons ?_ | refine a_pick ?_ | refine o_no ?_ | refine o_so ?_
  | refine s_nil ?_ | refine s_retn ?_ | refine s_brk ?_ | refine s_cnt ?_ | refine s_seq ?_ | refine s_set ?_ | refine s_expr ?_ | refine s_ret ?_ | refine s_if ?_ | refine s_asg ?_ | refine s_par ?_ | refine s_sub ?_ | refine f_fn ?_
  | refine n_then ?_ | refine n_thenr ?_ | refine n_thenb ?_ | refine n_thenc ?_ | refine n_endr ?_ | refine n_endn ?_ | refine n_turn ?_ | refine n_turnc ?_ | refine n_turnb ?_ | refine n_turnr ?_ | refine i_seq ?_ | refine i_zip ?_ | refine i_enm ?_ | refine i_rg1 ?_ | refine i_rg2 ?_
  | refine b_t ?_ | refine b_f ?_ | refine v_addI ?_ | refine v_sub ?_ | refine v_some ?_
  | refine v_mod (by first | assumption | decide | omega) ?_
  | refine v_div (by first | assumption | decide | omega) ?_
  | refine v_ix (by with_unfolding_all eq_refl) (by with_unfolding_all eq_refl) (by with_unfolding_all eq_refl) ?_
  | refine v_tupl (by with_unfolding_all eq_refl) ?_ | refine v_list (by with_unfolding_all eq_refl) ?_ | refine v_len (by with_unfolding_all eq_refl) (by with_unfolding_all eq_refl) ?_
  | refine v_mul (by first | assumption | exact okM_l (by decide) (by decide) | exact okM_r (by decide) (by decide) | exact okM_l (by omega) (by omega) | exact okM_r (by omega) (by omega)) ?_
  | refine v_eqI ?_ | refine v_neI ?_
  | refine v_mk (o := truD _ _) (by with_unfolding_all eq_refl) ?_ | refine v_mk (o := itsOf _ _) (by with_unfolding_all eq_refl) ?_ | refine v_mk (o := zipIt _ _ _) (by with_unfolding_all eq_refl) ?_
  | refine v_mk (o := fLt _ (.int _) (.int _)) rfl ?_ | refine v_mk (o := fLe _ (.int _) (.int _)) rfl ?_ | refine v_mk (o := fGt _ (.int _) (.int _)) rfl ?_ | refine v_mk (o := fGe _ (.int _) (.int _)) rfl ?_
  | refine v_mk (o := fAttr _ _ _ _) (by with_unfolding_all eq_refl) ?_ | refine v_mk (o := fIsi _ _ _) (by with_unfolding_all eq_refl) ?_ | refine v_mk (o := fIsi2 _ _ _) (by with_unfolding_all eq_refl) ?_ | refine v_mk (o := fInt _ _) (by with_unfolding_all eq_refl) ?_ | refine v_mk (o := fAbs _ _) (by with_unfolding_all eq_refl) ?_
  | refine v_mk (o := fMax2 _ _ _) (by with_unfolding_all eq_refl) ?_ | refine v_mk (o := fMin2 _ _ _) (by with_unfolding_all eq_refl) ?_ | refine v_mk (o := fIs _ _ _) (by with_unfolding_all eq_refl) ?_ | refine v_mk (o := fIsN _ _ _) (by with_unfolding_all eq_refl) ?_ | refine v_mk (o := pT _ _ _ _) (by with_unfolding_all eq_refl) ?_ | refine v_mk (o := pCons _ _ _ _) (by with_unfolding_all eq_refl) ?_
  | refine Exists.intro _ (And.intro (by with_unfolding_all eq_refl) ?_)
  | refine and_le (by with_unfolding_all eq_refl) ?_ | refine and_eq (by with_unfolding_all eq_refl) ?_ | refine and_rg (by with_unfolding_all eq_refl) ?_ | refine and_as (by assumption) ?_
  | refine Exists.intro _ (Exists.intro _ (Exists.intro _ (And.intro (by with_unfolding_all eq_refl) (And.intro (by with_unfolding_all eq_refl) (And.intro (by with_unfolding_all eq_refl) ?_)))))
  | refine Exists.intro _ (Exists.intro _ (Exists.intro _ (Exists.intro _ (And.intro (by with_unfolding_all eq_refl) (And.intro (by with_unfolding_all eq_refl) (And.intro (by with_unfolding_all eq_refl) (And.intro (by with_unfolding_all eq_refl) ?_)))))))
  | refine b_eq (z := true) (by with_unfolding_all eq_refl) ?_ | refine b_eq (z := false) (by with_unfolding_all eq_refl) ?_)
local macro_rules | `(tactic| walk_at "v") => `(tactic| with_reducible first
  | walk_at "u" | refine e_recv ?_ | refine e_makeR ?_ | refine s_attr ?_ | refine e_rgL1 ?_ | refine s_for ?_)
theorem k04_turn {rows : List Row} {rule : Str} (H : SsOk rows) (hr : strOkD rule = true) : Rg m_law_one_right [RT rows, .str rule] (.bl true) := by
  have hl : rows.length < 64 := H.hl
  have e0 : allS rows rule = couS rows rule (upto rows.length) := rfl
  have hT := taken_le (rule := rule) H
  unfold Rg m_law_one_right
  repeat walk_at "v"
  rw [List.length_map]
  refine ⟨by omega, ?_⟩
  rw [rng_upto]
  repeat walk_at "v"
  refine wC_pure (lists_ok (n := 13) H.ok) (pures1 (pure_RT _)) ?_
  repeat walk_at "v"
  refine wC_pure (let_ok hr (fun k hk => mem_upto.mp hk) (upto_up _) (by rw [upto_len]; exact hl) H.nm) (by simp [D.pures, D.pure, pure_RT, pure_ints]) ?_
  rw [← e0, letD_eq]
  repeat walk_at "v"
  show wL ⟨(upto rows.length).map fun k : Nat => D.int (k : Int), []⟩ _ _ ((upto rows.length).map fun k : Nat => D.int (k : Int)) [some (RT rows), some (.str rule), some (.lst ((upto rows.length).map fun k : Nat => .int (k : Int))), some (lisD (RT rows)), some (natsD (takenA rows rule)), none, none, none, none, none, none, none] [] _
  refine wL_inv (enc := fun k : Nat => D.int (k : Int)) (fun a b e S => a ++ b = upto rows.length ∧ S = [] ∧ ∃ y5 y6 y7 y8 y9 y10 y11 : Option D, e = [some (RT rows), some (.str rule), some (.lst ((upto rows.length).map fun k : Nat => .int (k : Int))), some (lisD (RT rows)), some (natsD (takenA rows rule)), y5, y6, y7, y8, y9, y10, y11]) (fun a b e S h => by obtain ⟨_, rfl, _⟩ := h; rfl) ?_ (upto rows.length) [] _ _ ⟨rfl, rfl, _, _, _, _, _, _, _, rfl⟩ ?_
  · rintro a k b e S ⟨eab, rfl, y5, y6, y7, y8, y9, y10, y11, rfl⟩
    refine ⟨_, rfl, ?_⟩
    have hk : k < rows.length := mem_upto.mp (by rw [← eab]; simp)
    have ek := get_at hk
    repeat walk_at "v"
    refine ⟨by rw [List.length_map]; omega, ?_⟩
    refine wK_map (enc := fun j : Nat => D.int (j : Int)) (g := fun j : Nat => .int (j : Int)) (fun j => decide (savN rows j ≤ opn rows k)) rfl (takenA rows rule) [] (fun j hj => ?_) ?_
    · have ej := get_at (taken_at hj)
      refine ⟨_, rfl, ?_⟩
      repeat walk_at "v"
      refine v_ix (xs := rows.map encR) rfl (ses_get ej) rfl ?_
      repeat walk_at "v"
      refine v_ix (xs := rows.map encR) rfl (ses_get ek) rfl ?_
      repeat walk_at "v"
      rw [savN_at ej, opn_at ek]
      exact ⟨rfl, rfl, fun _ => e_var (by rfl) ⟨rfl, rfl⟩⟩
    · rw [List.nil_append]
      repeat walk_at "v"
      refine wC_pure (seen_by_ok H.ok H.tup hr H.rw hk) pures_rt3 ?_
      repeat walk_at "v"
      refine wC_pure (seen_by_ok H.okS H.tupS hr H.rw hk) H.p3 ?_
      repeat walk_at "v"
      have hs : (seenL rows rule k).length ≤ 4000 := filter_le (by show (takenA rows rule).length ≤ 4000; omega)
      have o1 : D.ok 2 (.lst [natsD (seenL rows rule k), natsD (seenL rows rule k)]) = true := ok_pair (ok_nats hs) (ok_nats hs)
      refine wC_pure (same_self o1 (by decide)) (pures2 (ok_pure o1) (ok_pure o1)) ?_
      repeat walk_at "v"
      refine ⟨by rw [List.length_map, upto_len]; omega, ?_⟩
      refine wK_map (enc := fun j : Nat => D.int (j : Int)) (g := fun j : Nat => .int (j : Int)) (fun j => decide (j ≠ k)) rfl (upto rows.length) [] (fun j hj => ?_) ?_
      · refine ⟨_, rfl, ?_⟩
        repeat walk_at "v"
        exact ⟨by rw [← decide_not]; exact decide_eq_decide.mpr (by omega), rfl, fun _ => e_var (by rfl) ⟨rfl, rfl⟩⟩
      · rw [List.nil_append]
        repeat walk_at "v"
        refine wC_pure (let_ok (there := leftL rows.length k) hr left_lt left_up (Nat.lt_of_le_of_lt left_len hl) H.nm) (by simp [D.pures, D.pure, pure_RT, pure_ints]) ?_
        rw [letD_eq]
        repeat walk_at "v"
        have hw : (takenW rows rule k).length ≤ 4000 := by unfold takenW; rw [lettN_len]; have := left_sub (rows := rows) (rule := rule) (k := k); omega
        refine ⟨by rw [List.length_map]; exact hw, ?_⟩
        refine wK_map (enc := fun j : Nat => D.int (j : Int)) (g := fun j : Nat => .int (j : Int)) (fun j => decide (j ∉ takenA rows rule)) rfl (takenW rows rule k) [] (fun j hj => ?_) ?_
        · refine ⟨_, rfl, ?_⟩
          repeat walk_at "v"
          refine v_notInI ?_
          repeat walk_at "v"
          exact fun _ => e_var (by rfl) ⟨rfl, rfl⟩
        · rw [List.nil_append]
          repeat walk_at "v"
          refine ⟨by rw [List.length_map]; omega, ?_⟩
          refine wK_map (enc := fun j : Nat => D.int (j : Int)) (g := fun j : Nat => .int (j : Int)) (fun j => decide (j ∉ takenW rows rule k) && decide (j ≠ k)) rfl (takenA rows rule) [] (fun j hj => ?_) ?_
          · refine ⟨_, rfl, ?_⟩
            repeat walk_at "v"
            refine v_notInI ?_
            refine ⟨_, rfl, ?_⟩
            show if decide (j ∉ takenW rows rule k) = true then _ else _
            cases hw : decide (j ∉ takenW rows rule k) with
            | false =>
              refine b_f ?_
              exact ⟨rfl, rfl, fun z => by cases z⟩
            | true =>
              refine b_t ?_
              repeat walk_at "v"
              exact ⟨by rw [← decide_not]; exact decide_eq_decide.mpr (by omega), rfl, fun _ => e_var (by rfl) ⟨rfl, rfl⟩⟩
          · rw [List.nil_append]
            repeat walk_at "v"
            refine wC_pure (without_ok H.ok H.tup hr H.rw hk) pures_rt3 ?_
            repeat walk_at "v"
            refine wC_pure (without_ok H.okS H.tupS hr H.rw hk) H.p3 ?_
            repeat walk_at "v"
            have o2 : D.ok 2 (.tup [natsD (gainL rows rule k), natsD (loseL rows rule k)]) = true := by
              refine ok_tup.mpr ⟨1, rfl, by simp, fun x hx => ?_⟩
              rcases List.mem_cons.mp hx with e | e
              · rw [e]; exact ok_nats (filter_le hw)
              · rw [List.mem_singleton.mp e]; exact ok_nats (filter_le (by omega))
            have o3 := ok_pair o2 o2
            refine wC_pure (same_self o3 (by decide)) (pures2 (ok_pure o3) (ok_pure o3)) ?_
            repeat walk_at "v"
            exact ⟨by simp [eab], rfl, _, _, _, _, _, _, _, rfl⟩
  · rintro e S ⟨_, rfl, y5, y6, y7, y8, y9, y10, y11, rfl⟩
    repeat walk_at "v"
    refine wL_inv (enc := fun k : Nat => D.int (k : Int)) (fun a b e S => a ++ b = takenA rows rule ∧ S = [] ∧ ∃ y5 y6 y7 y8 y9 y11 : Option D, e = [some (RT rows), some (.str rule), some (.lst ((upto rows.length).map fun k : Nat => .int (k : Int))), some (lisD (RT rows)), some (natsD (takenA rows rule)), y5, y6, y7, y8, y9, some (.lst ((a.filter fun i => decide (i ∉ crossedL rows (takenA rows rule))).map fun j : Nat => .int (j : Int))), y11]) (fun a b e S h => by obtain ⟨_, rfl, _⟩ := h; rfl) ?_ (takenA rows rule) [] _ _ ⟨rfl, rfl, _, _, _, _, _, _, rfl⟩ ?_
    · rintro a k b e S ⟨eab, rfl, y5, y6, y7, y8, y9, y11, rfl⟩
      refine ⟨_, rfl, ?_⟩
      have hkT : k ∈ takenA rows rule := by rw [← eab]; simp
      have hk : k < rows.length := taken_at hkT
      have ek := get_at hk
      have la : a.length ≤ 10 := by have := congrArg List.length eab; simp at this; omega
      repeat walk_at "v"
      refine ⟨by rw [List.length_map]; omega, ?_⟩
      refine wK_map (enc := fun j : Nat => D.int (j : Int)) (g := fun j : Nat => .int (j : Int)) (fun j => crossAt rows j k) rfl (takenA rows rule) [] (fun j hj => ?_) ?_
      · have ej := get_at (taken_at hj)
        refine ⟨_, rfl, ?_⟩
        repeat walk_at "v"
        refine wC_pure (amid_ok ej ek) (pure_rt3 _ _ _) ?_
        repeat walk_at "v"
        unfold crossAt
        rw [ej, ek]
        dsimp only
        cases h1 : amid (rows[j]'(taken_at hj)) (rows[k]'hk) with
        | true =>
          refine b_t ?_
          exact ⟨rfl, rfl, fun _ => e_var (by rfl) ⟨rfl, rfl⟩⟩
        | false =>
          refine b_f ?_
          repeat walk_at "v"
          refine wC_pure (amid_ok ek ej) (pure_rt3 _ _ _) ?_
          repeat walk_at "v"
          exact fun _ => e_var (by rfl) ⟨rfl, rfl⟩
      · rw [List.nil_append]
        repeat walk_at "v"
        refine v_eqNil (bars := (takenA rows rule).filter fun j => crossAt rows j k) rfl (filter_le (by omega)) ?_
        repeat walk_at "v"
        have hlen : ((a.filter fun i => decide (i ∉ crossedL rows (takenA rows rule))).map fun j : Nat => D.int (j : Int)).length ≤ 10 := by rw [List.length_map]; exact filter_le la
        have hm : ((takenA rows rule).filter fun j => crossAt rows j k).isEmpty = decide (k ∉ crossedL rows (takenA rows rule)) := by
          rw [Bool.eq_iff_iff, List.isEmpty_iff, List.filter_eq_nil_iff, decide_eq_true_eq, mem_crossed]
          constructor
          · rintro h ⟨_, j, hj, hc⟩
            refine h j hj ?_
            rw [cross_amid (taken_at hj) hk, Bool.or_comm, ← cross_amid hk (taken_at hj)]
            exact hc
          · intro h j hj hc
            refine h ⟨hkT, j, hj, ?_⟩
            rw [cross_amid hk (taken_at hj), Bool.or_comm, ← cross_amid (taken_at hj) hk]
            exact hc
        rw [hm]
        cases hd : decide (k ∉ crossedL rows (takenA rows rule)) with
        | true =>
          refine v_mk (d := .lst [.int (k : Int)]) rfl ?_
          refine v_addC rfl (by simp only [List.length_cons, List.length_nil]; omega) ?_
          repeat walk_at "v"
          have hE : (a ++ [k]).filter (fun i => decide (i ∉ crossedL rows (takenA rows rule))) = a.filter (fun i => decide (i ∉ crossedL rows (takenA rows rule))) ++ [k] := by
            rw [List.filter_append, List.filter_cons, if_pos hd]
            rfl
          refine ⟨by simp [eab], rfl, some (.int (k : Int)), y6, y7, y8, y9, some (.lst (((takenA rows rule).filter fun j => crossAt rows j k).map fun j : Nat => .int (j : Int))), ?_⟩
          rw [hE, List.map_append]
          rfl
        | false =>
          refine v_mk (d := .lst []) rfl ?_
          refine v_addC rfl (by simp only [List.length_nil]; omega) ?_
          repeat walk_at "v"
          have hE : (a ++ [k]).filter (fun i => decide (i ∉ crossedL rows (takenA rows rule))) = a.filter (fun i => decide (i ∉ crossedL rows (takenA rows rule))) ++ [] := by
            rw [List.filter_append, List.filter_cons, if_neg (by rw [hd]; simp)]
            rfl
          refine ⟨by simp [eab], rfl, some (.int (k : Int)), y6, y7, y8, y9, some (.lst (((takenA rows rule).filter fun j => crossAt rows j k).map fun j : Nat => .int (j : Int))), ?_⟩
          rw [hE, List.map_append]
          rfl
    · rintro e S ⟨_, rfl, y5, y6, y7, y8, y9, y11, rfl⟩
      rw [List.nil_append]
      repeat walk_at "v"
      refine wC_pure (alone_ok H.ok H.tup hr H.rw) pures_rt2 ?_
      repeat walk_at "v"
      refine wC_pure (alone_ok H.okS H.tupS hr H.rw) H.p2 ?_
      repeat walk_at "v"
      have oa : D.ok 1 (natsD (aloneL rows rule)) = true := ok_nats (filter_le (by omega))
      have o4 := ok_pair oa oa
      refine v_mk (d := .lst [natsD (aloneL rows rule), natsD (aloneL rows rule)]) rfl ?_
      repeat walk_at "v"
      refine wC_pure (same_self o4 (by decide)) (pures2 (ok_pure o4) (ok_pure o4)) ?_
      repeat walk_at "v"
      refine wC_pure (lists_ok (n := 13) H.ok) (pures1 (pure_RT _)) ?_
      refine v_eqSelf H.okS (by decide) ?_
      repeat walk_at "v"
      exact frz_pure rfl
end MM
set_option maxRecDepth 100000
set_option maxHeartbeats 1000000
namespace MM
open PySem PySem.Spec PyProof.Rows L2
local instance tab_Pu_k04 : Tabl := tab0
local macro_rules | `(tactic| walk_at "u") => `(tactic| with_reducible first
  | refine e_var (by with_unfolding_all eq_refl) ?_ | refine e_c ?_ | refine e_m2 ?_ | refine e_m1 ?_ | refine e_new ?_ | refine e_ch ?_ | refine e_and ?_ | refine e_or ?_ | refine e_not ?_ | refine e_if ?_ | refine e_tup ?_ | refine e_lst ?_ | refine e_sl ?_ | refine e_app ?_
  | refine e_callR ?_ | refine e_call ?_ | refine e_comp ?_ | refine t_b1 ?_ | refine t_tr ?_ | refine t_an ?_ | refine t_or ?_ | refine t_no ?_ | refine t_true ?_ | refine a_nil ?_ | refine a_cons ?_ | refine a_pick ?_ | refine o_no ?_ | refine o_so ?_
  | refine s_nil ?_ | refine s_retn ?_ | refine s_brk ?_ | refine s_cnt ?_ | refine s_seq ?_ | refine s_set ?_ | refine s_expr ?_ | refine s_ret ?_ | refine s_if ?_ | refine s_asg ?_ | refine s_par ?_ | refine s_sub ?_ | refine f_fn ?_
  | refine n_then ?_ | refine n_thenr ?_ | refine n_thenb ?_ | refine n_thenc ?_ | refine n_endr ?_ | refine n_endn ?_ | refine n_turn ?_ | refine n_turnc ?_ | refine n_turnb ?_ | refine n_turnr ?_ | refine i_seq ?_ | refine i_zip ?_ | refine i_enm ?_ | refine i_rg1 ?_ | refine i_rg2 ?_
  | refine b_t ?_ | refine b_f ?_ | refine v_addI ?_ | refine v_sub ?_ | refine v_some ?_
  | refine v_mod (by first | assumption | decide | omega) ?_
  | refine v_div (by first | assumption | decide | omega) ?_
  | refine v_ix (by with_unfolding_all eq_refl) (by with_unfolding_all eq_refl) (by with_unfolding_all eq_refl) ?_
  | refine v_tupl (by with_unfolding_all eq_refl) ?_ | refine v_list (by with_unfolding_all eq_refl) ?_ | refine v_len (by with_unfolding_all eq_refl) (by with_unfolding_all eq_refl) ?_
  | refine v_mul (by first | assumption | exact okM_l (by decide) (by decide) | exact okM_r (by decide) (by decide) | exact okM_l (by omega) (by omega) | exact okM_r (by omega) (by omega)) ?_
  | refine v_eqI ?_ | refine v_neI ?_
  | refine v_mk (o := truD _ _) (by with_unfolding_all eq_refl) ?_ | refine v_mk (o := itsOf _ _) (by with_unfolding_all eq_refl) ?_ | refine v_mk (o := zipIt _ _ _) (by with_unfolding_all eq_refl) ?_
  | refine v_mk (o := fLt _ (.int _) (.int _)) rfl ?_ | refine v_mk (o := fLe _ (.int _) (.int _)) rfl ?_ | refine v_mk (o := fGt _ (.int _) (.int _)) rfl ?_ | refine v_mk (o := fGe _ (.int _) (.int _)) rfl ?_
  | refine v_mk (o := fAttr _ _ _ _) (by with_unfolding_all eq_refl) ?_ | refine v_mk (o := fIsi _ _ _) (by with_unfolding_all eq_refl) ?_ | refine v_mk (o := fIsi2 _ _ _) (by with_unfolding_all eq_refl) ?_ | refine v_mk (o := fInt _ _) (by with_unfolding_all eq_refl) ?_ | refine v_mk (o := fAbs _ _) (by with_unfolding_all eq_refl) ?_
  | refine v_mk (o := fMax2 _ _ _) (by with_unfolding_all eq_refl) ?_ | refine v_mk (o := fMin2 _ _ _) (by with_unfolding_all eq_refl) ?_ | refine v_mk (o := fIs _ _ _) (by with_unfolding_all eq_refl) ?_ | refine v_mk (o := fIsN _ _ _) (by with_unfolding_all eq_refl) ?_ | refine v_mk (o := pT _ _ _ _) (by with_unfolding_all eq_refl) ?_ | refine v_mk (o := pCons _ _ _ _) (by with_unfolding_all eq_refl) ?_
  | refine Exists.intro _ (And.intro (by with_unfolding_all eq_refl) ?_)
  | refine and_le (by with_unfolding_all eq_refl) ?_ | refine and_eq (by with_unfolding_all eq_refl) ?_ | refine and_rg (by with_unfolding_all eq_refl) ?_ | refine and_as (by assumption) ?_
  | refine Exists.intro _ (Exists.intro _ (Exists.intro _ (And.intro (by with_unfolding_all eq_refl) (And.intro (by with_unfolding_all eq_refl) (And.intro (by with_unfolding_all eq_refl) ?_)))))
  | refine Exists.intro _ (Exists.intro _ (Exists.intro _ (Exists.intro _ (And.intro (by with_unfolding_all eq_refl) (And.intro (by with_unfolding_all eq_refl) (And.intro (by with_unfolding_all eq_refl) (And.intro (by with_unfolding_all eq_refl) ?_)))))))
  | refine b_eq (z := true) (by with_unfolding_all eq_refl) ?_ | refine b_eq (z := false) (by with_unfolding_all eq_refl) ?_)
local macro_rules | `(tactic| walk_at "v") => `(tactic| with_reducible first
  | walk_at "u" | refine e_recv ?_ | refine e_makeR ?_ | refine s_attr ?_ | refine e_rgL1 ?_ | refine s_for ?_)
theorem k04_known : Rg m_law_known_right [] (.bl true) := rg_of_true (by decide +kernel)
theorem k04_right : Dr 500 m_law_right [] fun d => d = .bl true := by
  intro N b hb
  unfold m_law_right
  repeat walk_at "v"
  refine wC_pure k04_known rfl ?_
  repeat walk_at "v"
  show wL _ _ _ ((List.range 3).map fun i : Nat => D.int (0 + (i : Nat))) _ _ _
  refine wL_inv (enc := fun i : Nat => D.int (0 + (i : Nat))) (fun a l e S => ∃ (b : Int × Int × Int) (y1 y2 y3 : Option D) (G : Store), S = bxd b :: G ∧ Okb (N + 100 * l.length) b ∧ e = [some (.loc 0), y1, y2, y3]) (fun _ _ _ _ _ => rfl) ?_ (List.range 3) [] _ _ ⟨b, none, none, none, [], rfl, hb.le (by simp), rfl⟩ ?_
  · rintro a i l e S ⟨b, y1, y2, y3, G, rfl, hb, rfl⟩
    refine ⟨_, rfl, ?_⟩
    have hb : Okb (N + 100 * l.length + 100) b := hb.le (by rw [List.length_cons]; omega)
    repeat walk_at "v"
    refine wC_draw (take_ok (m := 11) (by omega) (by omega)) (k := 0) (n := N + 100 * l.length + 99) rfl (hb.le (by omega)) rfl ?_
    rintro _ b1 ⟨sz, rfl, l1, l2⟩ hb1
    repeat walk_at "v"
    obtain ⟨n, rfl⟩ : ∃ n : Nat, sz = (n : Int) := ⟨sz.toNat, by omega⟩
    refine wC_draw (sessions_ok (n := n) (ps := abc) (.inl rfl) (by decide) (by decide) (by omega)) (k := 0) (n := N + 100 * l.length) rfl (hb1.le (by simp; omega)) rfl ?_
    rintro _ b2 ⟨rows, hr, rfl⟩ hb2
    have H : SsOk rows := ss_of abc_ok (by omega) hr
    repeat walk_at "v"
    show wK _ _ _ _ _ (rulesL.map D.str) _ _ _
    refine wK_map0 (enc := D.str) (g := fun _ => D.bl true) rfl rulesL [] (fun x hx => ?_) ?_
    · have hx : strOkD x = true := (by decide +kernel : ∀ y ∈ rulesL, strOkD y = true) x hx
      refine ⟨_, rfl, ?_⟩
      repeat walk_at "v"
      refine wC_pure (k04_turn H hx) pures_rt2 ?_
      exact ⟨rfl, rfl⟩
    · refine v_mk (d := .bl true) rfl ?_
      repeat walk_at "v"
      exact ⟨b2, _, _, _, G, rfl, hb2, rfl⟩
  · rintro e S ⟨b, y1, y2, y3, G, rfl, hb, rfl⟩
    repeat walk_at "v"
    exact ends_pure (hb.le (by simp)) rfl rfl
theorem law_is : LawOk m_law := lawA_ok (.inr rfl) (by decide) k04_right
end MM
set_option maxRecDepth 100000
set_option maxHeartbeats 4000000
namespace MM
open PySem PySem.Spec PyProof.Rows L2
variable [TB : Tabl]
structure BT (mg : Str → Option Value) : Prop where
  b_abs : mg (Str.ofString "abs") = none
  b_all : mg (Str.ofString "all") = none
  b_bool : mg (Str.ofString "bool") = none
  b_enumerate : mg (Str.ofString "enumerate") = none
  b_int : mg (Str.ofString "int") = none
  b_isinstance : mg (Str.ofString "isinstance") = none
  b_len : mg (Str.ofString "len") = none
  b_list : mg (Str.ofString "list") = none
  b_max : mg (Str.ofString "max") = none
  b_min : mg (Str.ofString "min") = none
  b_range : mg (Str.ofString "range") = none
  b_set : mg (Str.ofString "set") = none
  b_sorted : mg (Str.ofString "sorted") = none
  b_str : mg (Str.ofString "str") = none
  b_tuple : mg (Str.ofString "tuple") = none
  b_zip : mg (Str.ofString "zip") = none
  c_CHECK : ∃ t, mg (Str.ofString "CHECK") = some (.str (Str.ofString "check") t)
  c_LOCK : ∃ t, mg (Str.ofString "LOCK") = some (.str (Str.ofString "lock") t)
  c_MERGE : ∃ t, mg (Str.ofString "MERGE") = some (.str (Str.ofString "merge") t)
structure CT (K : PySem.W.Frag) (mg : Str → Option Value) : Prop where
  k_Course : ClR K mg (Str.ofString "Course") [Str.ofString "own_reasons", Str.ofString "own_rule", Str.ofString "own_sessions", Str.ofString "own_taken"]
  k_Sessions : ClR K mg (Str.ofString "Sessions") [Str.ofString "own_rows"]
abbrev st_law_box : Stmt := PySem.Challenge.pw_saveclash_k04_seen_without_alone.main.body.getD 18 (.Pass ⟨0, 0, 0, 0⟩)
theorem sc_law_box : FnScope [Str.ofString "_law_script", Str.ofString "_law_k", Str.ofString "_law_cell"] [Str.ofString "_law_script", Str.ofString "_law_k"] (defScope st_law_box) := ⟨rfl, rfl, rfl, by decide +kernel, rfl, by decide +kernel, by decide +kernel⟩
theorem bd_law_box {K : PySem.W.Frag} : ∀ f fd, Fun K (Str.ofString "_law_box") (Str.ofString "_law_box") st_law_box f fd → Binds K fd [Str.ofString "_law_script", Str.ofString "_law_k"] [] := fun f fd F => F.binds (ps := [Str.ofString "_law_script", Str.ofString "_law_k"]) fun _ _ _ _ _ _ us hl => match us, hl with | [_, _], _ => rfl
theorem ok_law_box {P : Program} {w : World} {K : PySem.W.Frag} {mg : Str → Option Value} {base : Heap} (T : BT mg) (Z : CT K mg) (R : Raw K mg (Str.ofString "_law_box") st_law_box) : Df P w K mg base (Str.ofString "_law_box") st_law_box 1 [Str.ofString "_law_script", Str.ofString "_law_k"] m_law_box 2 :=
  df_of (N := [Str.ofString "_law_script", Str.ofString "_law_k", Str.ofString "_law_cell"]) (k := 0) R bd_law_box sc_law_box rfl fun f cdv A outer s H E hr => (ss_cons (s1_set sc_law_box.nd rfl (.inl rfl) (se_if (st_lt (se_var 1) (se_len (by rfl) T.b_len (se_var 0))) (se_item (se_var 0) (se_var 1)) se_int))
  (ss_one (s1_ret (sc_new (sc_lst (sa_cons (se_mul (se_abs (by rfl) T.b_abs (se_var 2)) (se_intf (by rfl) T.b_int (se_ge (se_abs (by rfl) T.b_abs (se_var 2)) (se_pow se_int se_int)))) (sa_cons (se_add (se_add (se_mod (se_intf (by rfl) T.b_int (se_var 2)) se_int) (se_mul se_int (se_var 1))) se_int) (sa_cons se_int sa_nil))))))))
abbrev st_law_cells : Stmt := PySem.Challenge.pw_saveclash_k04_seen_without_alone.main.body.getD 20 (.Pass ⟨0, 0, 0, 0⟩)
theorem sc_law_cells : FnScope [Str.ofString "_law_script", Str.ofString "_law_most", Str.ofString "_law_cells_here", Str.ofString "_law_k", Str.ofString "_law_cell", Str.ofString "_law_at_so"] [Str.ofString "_law_script", Str.ofString "_law_most"] (defScope st_law_cells) := ⟨rfl, rfl, rfl, by decide +kernel, rfl, by decide +kernel, by decide +kernel⟩
theorem bd_law_cells {K : PySem.W.Frag} : ∀ f fd, Fun K (Str.ofString "_law_cells") (Str.ofString "_law_cells") st_law_cells f fd → Binds K fd [Str.ofString "_law_script", Str.ofString "_law_most"] [] := fun f fd F => F.binds (ps := [Str.ofString "_law_script", Str.ofString "_law_most"]) fun _ _ _ _ _ _ us hl => match us, hl with | [_, _], _ => rfl
theorem ok_law_cells {P : Program} {w : World} {K : PySem.W.Frag} {mg : Str → Option Value} {base : Heap} (T : BT mg) (Z : CT K mg) (R : Raw K mg (Str.ofString "_law_cells") st_law_cells) : Df P w K mg base (Str.ofString "_law_cells") st_law_cells 1 [Str.ofString "_law_script", Str.ofString "_law_most"] m_law_cells 2 :=
  df_of (N := [Str.ofString "_law_script", Str.ofString "_law_most", Str.ofString "_law_cells_here", Str.ofString "_law_k", Str.ofString "_law_cell", Str.ofString "_law_at_so"]) (k := 0) R bd_law_cells sc_law_cells rfl fun f cdv A outer s H E hr => (ss_cons (s1_set sc_law_cells.nd rfl (.inl rfl) (se_or (sc_new (sc_list (by rfl) T.b_list (se_sl (se_var 0) so_none (so_some (se_var 1))))) (se_one (sc_new (sc_lst (sa_cons se_int sa_nil))))))
  (ss_cons (s1_for (vs := [3, 4]) (passes_of rfl) rfl (si_enum (by rfl) T.b_enumerate (se_sl (se_var 0) (so_some (se_var 1)) (so_some se_int))) (sg_tup rfl (sgs_cons (sg_name (by decide) sc_law_cells.nd rfl (.inl rfl)) (sgs_cons (sg_name (by decide) sc_law_cells.nd rfl (.inl rfl)) sgs_nil))) (ss_cons (s1_set sc_law_cells.nd rfl (.inl rfl) (se_mod (se_intf (by rfl) T.b_int (se_var 3)) (se_var 1)))
  (ss_one (s1_sub (se_add (se_item (se_var 2) (se_var 5)) (se_mul (se_var 4) (se_add (se_var 3) se_int))) (se_var 2) (se_var 5)))))
  (ss_one (s1_ret (se_var 2)))))
abbrev st_law_take : Stmt := PySem.Challenge.pw_saveclash_k04_seen_without_alone.main.body.getD 19 (.Pass ⟨0, 0, 0, 0⟩)
theorem sc_law_take : FnScope [Str.ofString "_law_box_here", Str.ofString "_law_below", Str.ofString "_law_drawn", Str.ofString "_law_once", Str.ofString "_law_odd", Str.ofString "_law_twice"] [Str.ofString "_law_box_here", Str.ofString "_law_below"] (defScope st_law_take) := ⟨rfl, rfl, rfl, by decide +kernel, rfl, by decide +kernel, by decide +kernel⟩
theorem bd_law_take {K : PySem.W.Frag} : ∀ f fd, Fun K (Str.ofString "_law_take") (Str.ofString "_law_take") st_law_take f fd → Binds K fd [Str.ofString "_law_box_here", Str.ofString "_law_below"] [] := fun f fd F => F.binds (ps := [Str.ofString "_law_box_here", Str.ofString "_law_below"]) fun _ _ _ _ _ _ us hl => match us, hl with | [_, _], _ => rfl
theorem ok_law_take {P : Program} {w : World} {K : PySem.W.Frag} {mg : Str → Option Value} {base : Heap} (T : BT mg) (Z : CT K mg) (R : Raw K mg (Str.ofString "_law_take") st_law_take) : Df P w K mg base (Str.ofString "_law_take") st_law_take 1 [Str.ofString "_law_box_here", Str.ofString "_law_below"] m_law_take 2 :=
  df_of (N := [Str.ofString "_law_box_here", Str.ofString "_law_below", Str.ofString "_law_drawn", Str.ofString "_law_once", Str.ofString "_law_odd", Str.ofString "_law_twice"]) (k := 0) R bd_law_take sc_law_take rfl fun f cdv A outer s H E hr => (ss_cons (s1_if (st_gt (se_item (se_var 0) se_int) se_int) (ss_cons (s1_set sc_law_take.nd rfl (.inl rfl) (se_mod (se_intf (by rfl) T.b_int (se_item (se_var 0) se_int)) (se_var 1)))
  (ss_cons (s1_sub (se_div (se_item (se_var 0) se_int) (se_var 1)) (se_var 0) se_int)
  (ss_one (s1_ret (se_var 2))))) ss_nil)
  (ss_cons (s1_sub (se_add (se_item (se_var 0) se_int) se_int) (se_var 0) se_int)
  (ss_cons (s1_set sc_law_take.nd rfl (.inl rfl) (se_mod (se_intf (by rfl) T.b_int (se_mul (se_add (se_item (se_var 0) se_int) (se_mul se_int (se_item (se_var 0) se_int))) (se_add se_int (se_item (se_var 0) se_int)))) se_int))
  (ss_cons (s1_set sc_law_take.nd rfl (.inl rfl) (se_add (se_mod (se_intf (by rfl) T.b_int (se_var 3)) se_int) se_int))
  (ss_cons (s1_set sc_law_take.nd rfl (.inl rfl) (se_mod (se_intf (by rfl) T.b_int (se_mul (se_add (se_add (se_var 3) (se_item (se_var 0) se_int)) (se_div (se_item (se_var 0) se_int) se_int)) (se_var 4))) se_int))
  (ss_one (s1_ret (se_mod (se_intf (by rfl) T.b_int (se_div (se_mod (se_intf (by rfl) T.b_int (se_add (se_mul (se_var 5) se_int) (se_var 3))) se_int) se_int)) (se_var 1)))))))))
abbrev st_law_of : Stmt := PySem.Challenge.pw_saveclash_k04_seen_without_alone.main.body.getD 21 (.Pass ⟨0, 0, 0, 0⟩)
theorem sc_law_of : FnScope [Str.ofString "_law_box_here", Str.ofString "_law_some"] [Str.ofString "_law_box_here", Str.ofString "_law_some"] (defScope st_law_of) := ⟨rfl, rfl, rfl, by decide +kernel, rfl, by decide +kernel, by decide +kernel⟩
theorem bd_law_of {K : PySem.W.Frag} : ∀ f fd, Fun K (Str.ofString "_law_of") (Str.ofString "_law_of") st_law_of f fd → Binds K fd [Str.ofString "_law_box_here", Str.ofString "_law_some"] [] := fun f fd F => F.binds (ps := [Str.ofString "_law_box_here", Str.ofString "_law_some"]) fun _ _ _ _ _ _ us hl => match us, hl with | [_, _], _ => rfl
theorem ok_law_of {P : Program} {w : World} {K : PySem.W.Frag} {mg : Str → Option Value} {base : Heap} (T : BT mg) (Z : CT K mg) (R : Raw K mg (Str.ofString "_law_of") st_law_of)
    (G_law_take : Df P w K mg base (Str.ofString "_law_take") st_law_take 1 [Str.ofString "_law_box_here", Str.ofString "_law_below"] m_law_take 2) : Df P w K mg base (Str.ofString "_law_of") st_law_of 2 [Str.ofString "_law_box_here", Str.ofString "_law_some"] m_law_of 2 :=
  df_of (N := [Str.ofString "_law_box_here", Str.ofString "_law_some"]) (k := 1) R bd_law_of sc_law_of rfl fun f cdv A outer s H E hr => (ss_one (s1_ret (se_item (se_var 1) (sd_callR (bx := true) G_law_take (hr.mono (by decide)) (sa_cons (se_var 0) (sa_cons (se_len (by rfl) T.b_len (se_var 1)) sa_nil))))))
abbrev st_law_sessions : Stmt := PySem.Challenge.pw_saveclash_k04_seen_without_alone.main.body.getD 24 (.Pass ⟨0, 0, 0, 0⟩)
theorem sc_law_sessions : FnScope [Str.ofString "_law_box_here", Str.ofString "_law_size_all", Str.ofString "_law_pool_so", Str.ofString "_law_wide_so", Str.ofString "_law_beat_so", Str.ofString "_law_rows", Str.ofString "_law_turn", Str.ofString "_law_from_so", Str.ofString "_law_mine_so", Str.ofString "_law_own"] [Str.ofString "_law_box_here", Str.ofString "_law_size_all", Str.ofString "_law_pool_so"] (defScope st_law_sessions) := ⟨rfl, rfl, rfl, by decide +kernel, rfl, by decide +kernel, by decide +kernel⟩
theorem bd_law_sessions {K : PySem.W.Frag} : ∀ f fd, Fun K (Str.ofString "_law_sessions") (Str.ofString "_law_sessions") st_law_sessions f fd → Binds K fd [Str.ofString "_law_box_here", Str.ofString "_law_size_all", Str.ofString "_law_pool_so"] [] := fun f fd F => F.binds (ps := [Str.ofString "_law_box_here", Str.ofString "_law_size_all", Str.ofString "_law_pool_so"]) fun _ _ _ _ _ _ us hl => match us, hl with | [_, _, _], _ => rfl
theorem ok_law_sessions {P : Program} {w : World} {K : PySem.W.Frag} {mg : Str → Option Value} {base : Heap} (T : BT mg) (Z : CT K mg) (R : Raw K mg (Str.ofString "_law_sessions") st_law_sessions)
    (G_law_take : Df P w K mg base (Str.ofString "_law_take") st_law_take 1 [Str.ofString "_law_box_here", Str.ofString "_law_below"] m_law_take 2)
    (G_law_of : Df P w K mg base (Str.ofString "_law_of") st_law_of 2 [Str.ofString "_law_box_here", Str.ofString "_law_some"] m_law_of 2) : Df P w K mg base (Str.ofString "_law_sessions") st_law_sessions 3 [Str.ofString "_law_box_here", Str.ofString "_law_size_all", Str.ofString "_law_pool_so"] m_law_sessions 3 :=
  df_of (N := [Str.ofString "_law_box_here", Str.ofString "_law_size_all", Str.ofString "_law_pool_so", Str.ofString "_law_wide_so", Str.ofString "_law_beat_so", Str.ofString "_law_rows", Str.ofString "_law_turn", Str.ofString "_law_from_so", Str.ofString "_law_mine_so", Str.ofString "_law_own"]) (k := 2) R bd_law_sessions sc_law_sessions rfl fun f cdv A outer s H E hr => (ss_cons (s1_par3 rfl sc_law_sessions.nd rfl rfl rfl (by decide) (by decide) (by decide) rfl rfl rfl (sa_cons (sd_callR (bx := true) G_law_of (hr.mono (by decide)) (sa_cons (se_var 0) (sa_cons (sc_frz (sc_lst (sa_cons se_int (sa_cons se_int (sa_cons se_int (sa_cons se_int sa_nil)))))) sa_nil))) (sa_cons (sd_callR (bx := true) G_law_take (hr.mono (by decide)) (sa_cons (se_var 0) (sa_cons se_int sa_nil))) (sa_cons (sc_new (sc_lst sa_nil)) sa_nil))))
  (ss_cons (s1_for (vs := [6]) (passes_of rfl) rfl (si_range1 (by rfl) T.b_range (se_var 1)) (sg_name (by decide) sc_law_sessions.nd rfl (.inl rfl)) (ss_cons (s1_set sc_law_sessions.nd rfl (.inl rfl) (se_add (se_add (se_var 4) se_int) (sd_callR (bx := true) G_law_of (hr.mono (by decide)) (sa_cons (se_var 0) (sa_cons (sc_frz (sc_lst (sa_cons se_int (sa_cons se_int (sa_cons se_int (sa_cons se_int (sa_cons se_int sa_nil))))))) sa_nil)))))
  (ss_cons (s1_set sc_law_sessions.nd rfl (.inl rfl) (se_max2 rfl (by rfl) T.b_max se_int (se_sub (se_sub (se_var 4) se_int) (sd_callR (bx := true) G_law_take (hr.mono (by decide)) (sa_cons (se_var 0) (sa_cons (se_var 3) sa_nil))))))
  (ss_cons (s1_set sc_law_sessions.nd rfl (.inl rfl) (sc_frz (sc_add (sc_frz (sc_lst (sa_cons (sd_callR (bx := true) G_law_of (hr.mono (by decide)) (sa_cons (se_var 0) (sa_cons (se_var 2) sa_nil))) sa_nil))) (sc_frz (sc_comp rfl sc_law_sessions.nd (si_seq (se_var 2)) (blkOk_by (own := [(Str.ofString "_law_own", 9)]) (by kernel_rfl)) (fun _ _ _ _ _ => (sg_name (by decide) sc_law_sessions.nd rfl (.inl rfl))) (fun _ _ _ _ _ => (sts_one (st_eq hr.units (sd_callR (bx := true) G_law_take (hr.mono (by decide)) (sa_cons (se_var 0) (sa_cons se_int sa_nil))) se_int))) (fun _ _ _ _ _ => (se_var 9)))))))
  (ss_one (s1_expr (se_append (se_var 5) (se_tup (sa_cons (se_var 7) (sa_cons (se_var 4) (sa_cons (se_tuple (by rfl) T.b_tuple (sc_frz (sc_sortset rfl (by rfl) T.b_sorted (by rfl) T.b_set (se_var 8)))) sa_nil)))))))))))
  (ss_one (s1_ret (se_tuple (by rfl) T.b_tuple (se_var 5))))))
abbrev st_tupled : Stmt := PySem.Challenge.pw_saveclash_k04_seen_without_alone.main.body.getD 4 (.Pass ⟨0, 0, 0, 0⟩)
theorem sc_tupled : FnScope [Str.ofString "thing", Str.ofString "part"] [Str.ofString "thing"] (defScope st_tupled) := ⟨rfl, rfl, rfl, by decide +kernel, rfl, by decide +kernel, by decide +kernel⟩
theorem bd_tupled {K : PySem.W.Frag} : ∀ f fd, Fun K (Str.ofString "tupled") (Str.ofString "tupled") st_tupled f fd → Binds K fd [Str.ofString "thing"] [] := fun f fd F => F.binds (ps := [Str.ofString "thing"]) fun _ _ _ _ _ _ us hl => match us, hl with | [_], _ => rfl
theorem ok_tupled {P : Program} {w : World} {K : PySem.W.Frag} {mg : Str → Option Value} {base : Heap} (T : BT mg) (Z : CT K mg) (R : Raw K mg (Str.ofString "tupled") st_tupled) : ∀ n, Df P w K mg base (Str.ofString "tupled") st_tupled n [Str.ofString "thing"] (m_tupled n) 1
  | 0 => df_none R bd_tupled rfl
  | n + 1 =>
    have ih := ok_tupled T Z R n
    df_of (N := [Str.ofString "thing", Str.ofString "part"]) R bd_tupled sc_tupled rfl fun f cdv A outer s H E hr => (ss_one (s1_ret (se_if (st_tru (se_isi2 .lst .tup (by decide) (by decide) (by rfl) T.b_isinstance (by rfl) T.b_list (by decide +kernel) (by rfl) T.b_tuple (by decide +kernel) (se_var 0))) (se_tuple (by rfl) T.b_tuple (sc_frz (sc_comp rfl sc_tupled.nd (si_seq (se_var 0)) (blkOk_by (own := [(Str.ofString "part", 1)]) (by kernel_rfl)) (fun _ _ _ _ _ => (sg_name (by decide) sc_tupled.nd rfl (.inl rfl))) (fun _ _ _ _ _ => sts_nil) (fun _ _ _ _ _ => (sd_callR (bx := false) ih (hr.mono (by omega)) (sa_cons (se_var 1) sa_nil)))))) (se_var 0))))
abbrev st_Sessions_init : Stmt := inClass (PySem.Challenge.pw_saveclash_k04_seen_without_alone.main.body.getD 6 (.Pass ⟨0, 0, 0, 0⟩)) 1
theorem sc_Sessions_init : FnScope [Str.ofString "self", Str.ofString "sessions"] [Str.ofString "self", Str.ofString "sessions"] (defScope st_Sessions_init) := ⟨rfl, rfl, rfl, by decide +kernel, rfl, by decide +kernel, by decide +kernel⟩
theorem bd_Sessions_init {K : PySem.W.Frag} : ∀ f fd, Fun K (Str.ofString "__init__") (Str.ofString "Sessions.__init__") st_Sessions_init f fd → Binds K fd [Str.ofString "self", Str.ofString "sessions"] [] := fun f fd F => F.binds (ps := [Str.ofString "self", Str.ofString "sessions"]) fun _ _ _ _ _ _ us hl => match us, hl with | [_, _], _ => rfl
theorem ok_Sessions_init {P : Program} {w : World} {K : PySem.W.Frag} {mg : Str → Option Value} {base : Heap} (T : BT mg) (Z : CT K mg) (R : RawM K mg (Str.ofString "Sessions") (Str.ofString "__init__") (Str.ofString "Sessions.__init__") st_Sessions_init)
    (G_tupled : ∀ n, Df P w K mg base (Str.ofString "tupled") st_tupled n [Str.ofString "thing"] (m_tupled n) 1) : Dm P w K mg base (Str.ofString "Sessions") (Str.ofString "__init__") (Str.ofString "Sessions.__init__") st_Sessions_init 15 [Str.ofString "self", Str.ofString "sessions"] m_Sessions_init 2 :=
  dm_of (N := [Str.ofString "self", Str.ofString "sessions"]) (k := 14) R bd_Sessions_init sc_Sessions_init rfl fun f cdv A outer s H E hr => (ss_one (s1_attr Z.k_Sessions 0 (sd_callR (bx := false) (G_tupled 14) (hr.mono (by decide)) (sa_cons (se_var 1) sa_nil)) (se_var 0)))
abbrev st_Sessions_check : Stmt := inClass (PySem.Challenge.pw_saveclash_k04_seen_without_alone.main.body.getD 6 (.Pass ⟨0, 0, 0, 0⟩)) 4
theorem sc_Sessions_check : FnScope [Str.ofString "self", Str.ofString "number"] [Str.ofString "self", Str.ofString "number"] (defScope st_Sessions_check) := ⟨rfl, rfl, rfl, by decide +kernel, rfl, by decide +kernel, by decide +kernel⟩
theorem bd_Sessions_check {K : PySem.W.Frag} : ∀ f fd, Fun K (Str.ofString "check") (Str.ofString "Sessions.check") st_Sessions_check f fd → Binds K fd [Str.ofString "self", Str.ofString "number"] [] := fun f fd F => F.binds (ps := [Str.ofString "self", Str.ofString "number"]) fun _ _ _ _ _ _ us hl => match us, hl with | [_, _], _ => rfl
theorem ok_Sessions_check {P : Program} {w : World} {K : PySem.W.Frag} {mg : Str → Option Value} {base : Heap} (T : BT mg) (Z : CT K mg) (R : RawM K mg (Str.ofString "Sessions") (Str.ofString "check") (Str.ofString "Sessions.check") st_Sessions_check) : Dm P w K mg base (Str.ofString "Sessions") (Str.ofString "check") (Str.ofString "Sessions.check") st_Sessions_check 1 [Str.ofString "self", Str.ofString "number"] m_Sessions_check 2 :=
  dm_of (N := [Str.ofString "self", Str.ofString "number"]) (k := 0) R bd_Sessions_check sc_Sessions_check rfl fun f cdv A outer s H E hr => (ss_cons (s1_if (st_not (st_chain (op_le.or op_le_str) (op_lt.or op_lt_str) cov_le cov_lt se_int (se_var 1) (se_len (by rfl) T.b_len (se_attr Z.k_Sessions 0 (se_var 0))))) (ss_one s1_never) ss_nil)
  (ss_one (s1_ret (se_var 1))))
abbrev st_Sessions_opening : Stmt := inClass (PySem.Challenge.pw_saveclash_k04_seen_without_alone.main.body.getD 6 (.Pass ⟨0, 0, 0, 0⟩)) 5
theorem sc_Sessions_opening : FnScope [Str.ofString "self", Str.ofString "number"] [Str.ofString "self", Str.ofString "number"] (defScope st_Sessions_opening) := ⟨rfl, rfl, rfl, by decide +kernel, rfl, by decide +kernel, by decide +kernel⟩
theorem bd_Sessions_opening {K : PySem.W.Frag} : ∀ f fd, Fun K (Str.ofString "opening") (Str.ofString "Sessions.opening") st_Sessions_opening f fd → Binds K fd [Str.ofString "self", Str.ofString "number"] [] := fun f fd F => F.binds (ps := [Str.ofString "self", Str.ofString "number"]) fun _ _ _ _ _ _ us hl => match us, hl with | [_, _], _ => rfl
theorem ok_Sessions_opening {P : Program} {w : World} {K : PySem.W.Frag} {mg : Str → Option Value} {base : Heap} (T : BT mg) (Z : CT K mg) (R : RawM K mg (Str.ofString "Sessions") (Str.ofString "opening") (Str.ofString "Sessions.opening") st_Sessions_opening) : Dm P w K mg base (Str.ofString "Sessions") (Str.ofString "opening") (Str.ofString "Sessions.opening") st_Sessions_opening 1 [Str.ofString "self", Str.ofString "number"] m_Sessions_opening 2 :=
  dm_of (N := [Str.ofString "self", Str.ofString "number"]) (k := 0) R bd_Sessions_opening sc_Sessions_opening rfl fun f cdv A outer s H E hr => (ss_one (s1_ret (se_item (se_item (se_attr Z.k_Sessions 0 (se_var 0)) (se_var 1)) se_int)))
abbrev st_Sessions_saving : Stmt := inClass (PySem.Challenge.pw_saveclash_k04_seen_without_alone.main.body.getD 6 (.Pass ⟨0, 0, 0, 0⟩)) 6
theorem sc_Sessions_saving : FnScope [Str.ofString "self", Str.ofString "number"] [Str.ofString "self", Str.ofString "number"] (defScope st_Sessions_saving) := ⟨rfl, rfl, rfl, by decide +kernel, rfl, by decide +kernel, by decide +kernel⟩
theorem bd_Sessions_saving {K : PySem.W.Frag} : ∀ f fd, Fun K (Str.ofString "saving") (Str.ofString "Sessions.saving") st_Sessions_saving f fd → Binds K fd [Str.ofString "self", Str.ofString "number"] [] := fun f fd F => F.binds (ps := [Str.ofString "self", Str.ofString "number"]) fun _ _ _ _ _ _ us hl => match us, hl with | [_, _], _ => rfl
theorem ok_Sessions_saving {P : Program} {w : World} {K : PySem.W.Frag} {mg : Str → Option Value} {base : Heap} (T : BT mg) (Z : CT K mg) (R : RawM K mg (Str.ofString "Sessions") (Str.ofString "saving") (Str.ofString "Sessions.saving") st_Sessions_saving) : Dm P w K mg base (Str.ofString "Sessions") (Str.ofString "saving") (Str.ofString "Sessions.saving") st_Sessions_saving 1 [Str.ofString "self", Str.ofString "number"] m_Sessions_saving 2 :=
  dm_of (N := [Str.ofString "self", Str.ofString "number"]) (k := 0) R bd_Sessions_saving sc_Sessions_saving rfl fun f cdv A outer s H E hr => (ss_one (s1_ret (se_item (se_item (se_attr Z.k_Sessions 0 (se_var 0)) (se_var 1)) se_int)))
abbrev st_Course_let_by : Stmt := inClass (PySem.Challenge.pw_saveclash_k04_seen_without_alone.main.body.getD 11 (.Pass ⟨0, 0, 0, 0⟩)) 5
theorem sc_Course_let_by : FnScope [Str.ofString "self"] [Str.ofString "self"] (defScope st_Course_let_by) := ⟨rfl, rfl, rfl, by decide +kernel, rfl, by decide +kernel, by decide +kernel⟩
theorem bd_Course_let_by {K : PySem.W.Frag} : ∀ f fd, Fun K (Str.ofString "let_by") (Str.ofString "Course.let_by") st_Course_let_by f fd → Binds K fd [Str.ofString "self"] [] := fun f fd F => F.binds (ps := [Str.ofString "self"]) fun _ _ _ _ _ _ us hl => match us, hl with | [_], _ => rfl
theorem ok_Course_let_by {P : Program} {w : World} {K : PySem.W.Frag} {mg : Str → Option Value} {base : Heap} (T : BT mg) (Z : CT K mg) (R : RawM K mg (Str.ofString "Course") (Str.ofString "let_by") (Str.ofString "Course.let_by") st_Course_let_by) : Dm P w K mg base (Str.ofString "Course") (Str.ofString "let_by") (Str.ofString "Course.let_by") st_Course_let_by 1 [Str.ofString "self"] m_Course_let_by 1 :=
  dm_of (N := [Str.ofString "self"]) (k := 0) R bd_Course_let_by sc_Course_let_by rfl fun f cdv A outer s H E hr => (ss_one (s1_ret (se_tuple (by rfl) T.b_tuple (sc_frz (sc_sorted (by rfl) T.b_sorted (se_attr Z.k_Course 3 (se_var 0)))))))
abbrev st_Sessions_numbers : Stmt := inClass (PySem.Challenge.pw_saveclash_k04_seen_without_alone.main.body.getD 6 (.Pass ⟨0, 0, 0, 0⟩)) 3
theorem sc_Sessions_numbers : FnScope [Str.ofString "self"] [Str.ofString "self"] (defScope st_Sessions_numbers) := ⟨rfl, rfl, rfl, by decide +kernel, rfl, by decide +kernel, by decide +kernel⟩
theorem bd_Sessions_numbers {K : PySem.W.Frag} : ∀ f fd, Fun K (Str.ofString "numbers") (Str.ofString "Sessions.numbers") st_Sessions_numbers f fd → Binds K fd [Str.ofString "self"] [] := fun f fd F => F.binds (ps := [Str.ofString "self"]) fun _ _ _ _ _ _ us hl => match us, hl with | [_], _ => rfl
theorem ok_Sessions_numbers {P : Program} {w : World} {K : PySem.W.Frag} {mg : Str → Option Value} {base : Heap} (T : BT mg) (Z : CT K mg) (R : RawM K mg (Str.ofString "Sessions") (Str.ofString "numbers") (Str.ofString "Sessions.numbers") st_Sessions_numbers) : Dm P w K mg base (Str.ofString "Sessions") (Str.ofString "numbers") (Str.ofString "Sessions.numbers") st_Sessions_numbers 1 [Str.ofString "self"] m_Sessions_numbers 1 :=
  dm_of (N := [Str.ofString "self"]) (k := 0) R bd_Sessions_numbers sc_Sessions_numbers rfl fun f cdv A outer s H E hr => (ss_one (s1_ret (sc_frz (sc_lrg1 rfl (by rfl) T.b_range (by rfl) T.b_list (se_len (by rfl) T.b_len (se_attr Z.k_Sessions 0 (se_var 0)))))))
abbrev st_Course_order : Stmt := inClass (PySem.Challenge.pw_saveclash_k04_seen_without_alone.main.body.getD 11 (.Pass ⟨0, 0, 0, 0⟩)) 2
theorem sc_Course_order : FnScope [Str.ofString "self", Str.ofString "there"] [Str.ofString "self", Str.ofString "there"] (defScope st_Course_order) := ⟨rfl, rfl, rfl, by decide +kernel, rfl, by decide +kernel, by decide +kernel⟩
theorem bd_Course_order {K : PySem.W.Frag} : ∀ f fd, Fun K (Str.ofString "order") (Str.ofString "Course.order") st_Course_order f fd → Binds K fd [Str.ofString "self", Str.ofString "there"] [] := fun f fd F => F.binds (ps := [Str.ofString "self", Str.ofString "there"]) fun _ _ _ _ _ _ us hl => match us, hl with | [_, _], _ => rfl
theorem ok_Course_order {P : Program} {w : World} {K : PySem.W.Frag} {mg : Str → Option Value} {base : Heap} {c9 P9 : Addr} (T : BT mg) (Z : CT K mg) (R : RawML K mg (Str.ofString "Course") (Str.ofString "order") (Str.ofString "Course.order") st_Course_order c9) (L9 : LamX.TabB base mg c9 P9) (T9 : (P9, Str.ofString "Course.order" ++ ".<locals>." ++ "<lambda>") ∈ TB.T)
    (G_Sessions_opening : Dm P w K mg base (Str.ofString "Sessions") (Str.ofString "opening") (Str.ofString "Sessions.opening") st_Sessions_opening 1 [Str.ofString "self", Str.ofString "number"] m_Sessions_opening 2) : Dm P w K mg base (Str.ofString "Course") (Str.ofString "order") (Str.ofString "Course.order") st_Course_order 5 [Str.ofString "self", Str.ofString "there"] m_Course_order 2 :=
  dm_ofL (N := [Str.ofString "self", Str.ofString "there"]) (k := 4) R bd_Course_order sc_Course_order rfl fun f A outer s H E hr => (ss_cons (s1_if (st_eq hr.units (se_attr Z.k_Course 1 (se_var 0)) (se_gS T.c_LOCK)) (ss_one (s1_ret (sc_frz (sc_sortK (k := 1) (fr := [Str.ofString "self"]) (N := [Str.ofString "number", Str.ofString "self"]) (x := Str.ofString "number") (js := [0]) (n := 0) (hr.mono (by decide)) (by rfl) T.b_sorted L9 rfl T9 (by kernel_rfl) (NdefX.nscope_by (by kernel_rfl)) rfl rfl (fun q cl c1 pm ctv us hl => match us, hl with | [_], _ => rfl) (se_var 1) (fun f c1 A outer s H hr => (se_tup (sa_cons (sd_meth (H0 := (fun a as => mCallR false m_Sessions_opening 2 (aCons a as))) G_Sessions_opening (hr.mono (by decide)) (se_attr Z.k_Course 2 (se_var 1)) (sa_cons (se_var 0) sa_nil) (fun _ _ _ _ _ => g_callR) rfl) (sa_cons (se_var 0) sa_nil)))))))) ss_nil)
  (ss_one (s1_ret (sc_frz (sc_sorted (by rfl) T.b_sorted (se_var 1))))))
abbrev st_Sessions_is_between : Stmt := inClass (PySem.Challenge.pw_saveclash_k04_seen_without_alone.main.body.getD 6 (.Pass ⟨0, 0, 0, 0⟩)) 8
theorem sc_Sessions_is_between : FnScope [Str.ofString "self", Str.ofString "number", Str.ofString "other"] [Str.ofString "self", Str.ofString "number", Str.ofString "other"] (defScope st_Sessions_is_between) := ⟨rfl, rfl, rfl, by decide +kernel, rfl, by decide +kernel, by decide +kernel⟩
theorem bd_Sessions_is_between {K : PySem.W.Frag} : ∀ f fd, Fun K (Str.ofString "is_between") (Str.ofString "Sessions.is_between") st_Sessions_is_between f fd → Binds K fd [Str.ofString "self", Str.ofString "number", Str.ofString "other"] [] := fun f fd F => F.binds (ps := [Str.ofString "self", Str.ofString "number", Str.ofString "other"]) fun _ _ _ _ _ _ us hl => match us, hl with | [_, _, _], _ => rfl
theorem ok_Sessions_is_between {P : Program} {w : World} {K : PySem.W.Frag} {mg : Str → Option Value} {base : Heap} (T : BT mg) (Z : CT K mg) (R : RawM K mg (Str.ofString "Sessions") (Str.ofString "is_between") (Str.ofString "Sessions.is_between") st_Sessions_is_between)
    (G_Sessions_opening : Dm P w K mg base (Str.ofString "Sessions") (Str.ofString "opening") (Str.ofString "Sessions.opening") st_Sessions_opening 1 [Str.ofString "self", Str.ofString "number"] m_Sessions_opening 2)
    (G_Sessions_saving : Dm P w K mg base (Str.ofString "Sessions") (Str.ofString "saving") (Str.ofString "Sessions.saving") st_Sessions_saving 1 [Str.ofString "self", Str.ofString "number"] m_Sessions_saving 2) : Dm P w K mg base (Str.ofString "Sessions") (Str.ofString "is_between") (Str.ofString "Sessions.is_between") st_Sessions_is_between 2 [Str.ofString "self", Str.ofString "number", Str.ofString "other"] m_Sessions_is_between 3 :=
  dm_of (N := [Str.ofString "self", Str.ofString "number", Str.ofString "other"]) (k := 1) R bd_Sessions_is_between sc_Sessions_is_between rfl fun f cdv A outer s H E hr => (ss_one (s1_ret (se_chain (op_lt.or op_lt_str) (op_lt.or op_lt_str) cov_lt cov_lt (sd_meth (H0 := (fun a as => mCallR false m_Sessions_opening 2 (aCons a as))) G_Sessions_opening (hr.mono (by decide)) (se_var 0) (sa_cons (se_var 2) sa_nil) (fun _ _ _ _ _ => g_callR) rfl) (sd_meth (H0 := (fun a as => mCallR false m_Sessions_saving 2 (aCons a as))) G_Sessions_saving (hr.mono (by decide)) (se_var 0) (sa_cons (se_var 1) sa_nil) (fun _ _ _ _ _ => g_callR) rfl) (sd_meth (H0 := (fun a as => mCallR false m_Sessions_saving 2 (aCons a as))) G_Sessions_saving (hr.mono (by decide)) (se_var 0) (sa_cons (se_var 2) sa_nil) (fun _ _ _ _ _ => g_callR) rfl))))
abbrev st_Sessions_names : Stmt := inClass (PySem.Challenge.pw_saveclash_k04_seen_without_alone.main.body.getD 6 (.Pass ⟨0, 0, 0, 0⟩)) 7
theorem sc_Sessions_names : FnScope [Str.ofString "self", Str.ofString "number"] [Str.ofString "self", Str.ofString "number"] (defScope st_Sessions_names) := ⟨rfl, rfl, rfl, by decide +kernel, rfl, by decide +kernel, by decide +kernel⟩
theorem bd_Sessions_names {K : PySem.W.Frag} : ∀ f fd, Fun K (Str.ofString "names") (Str.ofString "Sessions.names") st_Sessions_names f fd → Binds K fd [Str.ofString "self", Str.ofString "number"] [] := fun f fd F => F.binds (ps := [Str.ofString "self", Str.ofString "number"]) fun _ _ _ _ _ _ us hl => match us, hl with | [_, _], _ => rfl
theorem ok_Sessions_names {P : Program} {w : World} {K : PySem.W.Frag} {mg : Str → Option Value} {base : Heap} (T : BT mg) (Z : CT K mg) (R : RawM K mg (Str.ofString "Sessions") (Str.ofString "names") (Str.ofString "Sessions.names") st_Sessions_names) : Dm P w K mg base (Str.ofString "Sessions") (Str.ofString "names") (Str.ofString "Sessions.names") st_Sessions_names 1 [Str.ofString "self", Str.ofString "number"] m_Sessions_names 2 :=
  dm_of (N := [Str.ofString "self", Str.ofString "number"]) (k := 0) R bd_Sessions_names sc_Sessions_names rfl fun f cdv A outer s H E hr => (ss_one (s1_ret (se_item (se_item (se_attr Z.k_Sessions 0 (se_var 0)) (se_var 1)) se_int)))
abbrev st_Sessions_common : Stmt := inClass (PySem.Challenge.pw_saveclash_k04_seen_without_alone.main.body.getD 6 (.Pass ⟨0, 0, 0, 0⟩)) 10
theorem sc_Sessions_common : FnScope [Str.ofString "self", Str.ofString "one", Str.ofString "other", Str.ofString "name"] [Str.ofString "self", Str.ofString "one", Str.ofString "other"] (defScope st_Sessions_common) := ⟨rfl, rfl, rfl, by decide +kernel, rfl, by decide +kernel, by decide +kernel⟩
theorem bd_Sessions_common {K : PySem.W.Frag} : ∀ f fd, Fun K (Str.ofString "common") (Str.ofString "Sessions.common") st_Sessions_common f fd → Binds K fd [Str.ofString "self", Str.ofString "one", Str.ofString "other"] [] := fun f fd F => F.binds (ps := [Str.ofString "self", Str.ofString "one", Str.ofString "other"]) fun _ _ _ _ _ _ us hl => match us, hl with | [_, _, _], _ => rfl
theorem ok_Sessions_common {P : Program} {w : World} {K : PySem.W.Frag} {mg : Str → Option Value} {base : Heap} (T : BT mg) (Z : CT K mg) (R : RawM K mg (Str.ofString "Sessions") (Str.ofString "common") (Str.ofString "Sessions.common") st_Sessions_common)
    (G_Sessions_names : Dm P w K mg base (Str.ofString "Sessions") (Str.ofString "names") (Str.ofString "Sessions.names") st_Sessions_names 1 [Str.ofString "self", Str.ofString "number"] m_Sessions_names 2) : Dm P w K mg base (Str.ofString "Sessions") (Str.ofString "common") (Str.ofString "Sessions.common") st_Sessions_common 2 [Str.ofString "self", Str.ofString "one", Str.ofString "other"] m_Sessions_common 3 :=
  dm_of (N := [Str.ofString "self", Str.ofString "one", Str.ofString "other", Str.ofString "name"]) (k := 1) R bd_Sessions_common sc_Sessions_common rfl fun f cdv A outer s H E hr => (ss_one (s1_ret (se_tuple (by rfl) T.b_tuple (sc_frz (sc_comp rfl sc_Sessions_common.nd (si_seq (sd_meth (H0 := (fun a as => mCallR false m_Sessions_names 2 (aCons a as))) G_Sessions_names (hr.mono (by decide)) (se_var 0) (sa_cons (se_var 1) sa_nil) (fun _ _ _ _ _ => g_callR) rfl)) (blkOk_by (own := [(Str.ofString "name", 3)]) (by kernel_rfl)) (fun _ _ _ _ _ => (sg_name (by decide) sc_Sessions_common.nd rfl (.inl rfl))) (fun _ _ _ _ _ => (sts_one (st_in (se_var 3) (sd_meth (H0 := (fun a as => mCallR false m_Sessions_names 2 (aCons a as))) G_Sessions_names (hr.mono (by decide)) (se_var 0) (sa_cons (se_var 2) sa_nil) (fun _ _ _ _ _ => g_callR) rfl)))) (fun _ _ _ _ _ => (se_var 3)))))))
abbrev st_Course_stands_against : Stmt := inClass (PySem.Challenge.pw_saveclash_k04_seen_without_alone.main.body.getD 11 (.Pass ⟨0, 0, 0, 0⟩)) 3
theorem sc_Course_stands_against : FnScope [Str.ofString "self", Str.ofString "other", Str.ofString "number", Str.ofString "own"] [Str.ofString "self", Str.ofString "other", Str.ofString "number"] (defScope st_Course_stands_against) := ⟨rfl, rfl, rfl, by decide +kernel, rfl, by decide +kernel, by decide +kernel⟩
theorem bd_Course_stands_against {K : PySem.W.Frag} : ∀ f fd, Fun K (Str.ofString "stands_against") (Str.ofString "Course.stands_against") st_Course_stands_against f fd → Binds K fd [Str.ofString "self", Str.ofString "other", Str.ofString "number"] [] := fun f fd F => F.binds (ps := [Str.ofString "self", Str.ofString "other", Str.ofString "number"]) fun _ _ _ _ _ _ us hl => match us, hl with | [_, _, _], _ => rfl
theorem ok_Course_stands_against {P : Program} {w : World} {K : PySem.W.Frag} {mg : Str → Option Value} {base : Heap} (T : BT mg) (Z : CT K mg) (R : RawM K mg (Str.ofString "Course") (Str.ofString "stands_against") (Str.ofString "Course.stands_against") st_Course_stands_against)
    (G_Sessions_opening : Dm P w K mg base (Str.ofString "Sessions") (Str.ofString "opening") (Str.ofString "Sessions.opening") st_Sessions_opening 1 [Str.ofString "self", Str.ofString "number"] m_Sessions_opening 2)
    (G_Sessions_saving : Dm P w K mg base (Str.ofString "Sessions") (Str.ofString "saving") (Str.ofString "Sessions.saving") st_Sessions_saving 1 [Str.ofString "self", Str.ofString "number"] m_Sessions_saving 2)
    (G_Sessions_is_between : Dm P w K mg base (Str.ofString "Sessions") (Str.ofString "is_between") (Str.ofString "Sessions.is_between") st_Sessions_is_between 2 [Str.ofString "self", Str.ofString "number", Str.ofString "other"] m_Sessions_is_between 3)
    (G_Sessions_common : Dm P w K mg base (Str.ofString "Sessions") (Str.ofString "common") (Str.ofString "Sessions.common") st_Sessions_common 2 [Str.ofString "self", Str.ofString "one", Str.ofString "other"] m_Sessions_common 3) : Dm P w K mg base (Str.ofString "Course") (Str.ofString "stands_against") (Str.ofString "Course.stands_against") st_Course_stands_against 3 [Str.ofString "self", Str.ofString "other", Str.ofString "number"] m_Course_stands_against 3 :=
  dm_of (N := [Str.ofString "self", Str.ofString "other", Str.ofString "number", Str.ofString "own"]) (k := 2) R bd_Course_stands_against sc_Course_stands_against rfl fun f cdv A outer s H E hr => (ss_cons (s1_set sc_Course_stands_against.nd rfl (.inl rfl) (se_attr Z.k_Course 2 (se_var 0)))
  (ss_cons (s1_if (st_eq hr.units (se_attr Z.k_Course 1 (se_var 0)) (se_gS T.c_LOCK)) (ss_one (s1_ret (se_gt (sd_meth (H0 := (fun a as => mCallR false m_Sessions_saving 2 (aCons a as))) G_Sessions_saving (hr.mono (by decide)) (se_var 3) (sa_cons (se_var 1) sa_nil) (fun _ _ _ _ _ => g_callR) rfl) (sd_meth (H0 := (fun a as => mCallR false m_Sessions_opening 2 (aCons a as))) G_Sessions_opening (hr.mono (by decide)) (se_var 3) (sa_cons (se_var 2) sa_nil) (fun _ _ _ _ _ => g_callR) rfl)))) ss_nil)
  (ss_cons (s1_if (st_eq hr.units (se_attr Z.k_Course 1 (se_var 0)) (se_gS T.c_CHECK)) (ss_one (s1_ret (sd_meth (H0 := (fun a as => mCallR false m_Sessions_is_between 3 (aCons a as))) G_Sessions_is_between (hr.mono (by decide)) (se_var 3) (sa_cons (se_var 1) (sa_cons (se_var 2) sa_nil)) (fun _ _ _ _ _ => g_callR) rfl))) ss_nil)
  (ss_cons (s1_if (st_eq hr.units (se_attr Z.k_Course 1 (se_var 0)) (se_gS T.c_MERGE)) (ss_one (s1_ret (se_and (sd_meth (H0 := (fun a as => mCallR false m_Sessions_is_between 3 (aCons a as))) G_Sessions_is_between (hr.mono (by decide)) (se_var 3) (sa_cons (se_var 1) (sa_cons (se_var 2) sa_nil)) (fun _ _ _ _ _ => g_callR) rfl) (se_one (se_gt (se_len (by rfl) T.b_len (sd_meth (H0 := (fun a as => mCallR false m_Sessions_common 3 (aCons a as))) G_Sessions_common (hr.mono (by decide)) (se_var 3) (sa_cons (se_var 1) (sa_cons (se_var 2) sa_nil)) (fun _ _ _ _ _ => g_callR) rfl)) se_int))))) ss_nil)
  (ss_one (s1_ret se_bl))))))
abbrev st_Course_come : Stmt := inClass (PySem.Challenge.pw_saveclash_k04_seen_without_alone.main.body.getD 11 (.Pass ⟨0, 0, 0, 0⟩)) 4
theorem sc_Course_come : FnScope [Str.ofString "self", Str.ofString "number", Str.ofString "reasons", Str.ofString "other"] [Str.ofString "self", Str.ofString "number"] (defScope st_Course_come) := ⟨rfl, rfl, rfl, by decide +kernel, rfl, by decide +kernel, by decide +kernel⟩
theorem bd_Course_come {K : PySem.W.Frag} : ∀ f fd, Fun K (Str.ofString "come") (Str.ofString "Course.come") st_Course_come f fd → Binds K fd [Str.ofString "self", Str.ofString "number"] [] := fun f fd F => F.binds (ps := [Str.ofString "self", Str.ofString "number"]) fun _ _ _ _ _ _ us hl => match us, hl with | [_, _], _ => rfl
theorem ok_Course_come {P : Program} {w : World} {K : PySem.W.Frag} {mg : Str → Option Value} {base : Heap} (T : BT mg) (Z : CT K mg) (R : RawM K mg (Str.ofString "Course") (Str.ofString "come") (Str.ofString "Course.come") st_Course_come)
    (G_Course_stands_against : Dm P w K mg base (Str.ofString "Course") (Str.ofString "stands_against") (Str.ofString "Course.stands_against") st_Course_stands_against 3 [Str.ofString "self", Str.ofString "other", Str.ofString "number"] m_Course_stands_against 3) : Dm P w K mg base (Str.ofString "Course") (Str.ofString "come") (Str.ofString "Course.come") st_Course_come 4 [Str.ofString "self", Str.ofString "number"] m_Course_come 2 :=
  dm_of (N := [Str.ofString "self", Str.ofString "number", Str.ofString "reasons", Str.ofString "other"]) (k := 3) R bd_Course_come sc_Course_come rfl fun f cdv A outer s H E hr => (ss_cons (s1_comp rfl sc_Course_come.nd rfl rfl (si_seq (se_attr Z.k_Course 3 (se_var 0))) (blkOk_by (own := [(Str.ofString "other", 3)]) (by kernel_rfl)) (fun _ _ _ _ _ => (sg_name (by decide) sc_Course_come.nd rfl (.inl rfl))) (fun _ _ _ _ _ => (sts_one (st_tru (sd_meth (H0 := (fun a as => mCall m_Course_stands_against 3 (aCons a as))) G_Course_stands_against (hr.mono (by decide)) (se_var 0) (sa_cons (se_var 3) (sa_cons (se_var 1) sa_nil)) (fun _ _ _ _ _ => g_call) rfl)))) (fun _ _ _ _ _ => (se_var 3))).1
  (ss_one (s1_if (st_gt (se_len (by rfl) T.b_len (se_var 2)) se_int) (ss_one (s1_dput hr.line (se_min rfl (by rfl) T.b_min (se_var 2)) (se_attr Z.k_Course 0 (se_var 0)) (se_var 1))) (ss_one (s1_expr (se_append (se_attr Z.k_Course 3 (se_var 0)) (se_var 1)))))))
abbrev st_Course_init : Stmt := inClass (PySem.Challenge.pw_saveclash_k04_seen_without_alone.main.body.getD 11 (.Pass ⟨0, 0, 0, 0⟩)) 1
theorem sc_Course_init : FnScope [Str.ofString "self", Str.ofString "own", Str.ofString "rule", Str.ofString "there", Str.ofString "number"] [Str.ofString "self", Str.ofString "own", Str.ofString "rule", Str.ofString "there"] (defScope st_Course_init) := ⟨rfl, rfl, rfl, by decide +kernel, rfl, by decide +kernel, by decide +kernel⟩
theorem bd_Course_init {K : PySem.W.Frag} : ∀ f fd, Fun K (Str.ofString "__init__") (Str.ofString "Course.__init__") st_Course_init f fd → Binds K fd [Str.ofString "self", Str.ofString "own", Str.ofString "rule", Str.ofString "there"] [] := fun f fd F => F.binds (ps := [Str.ofString "self", Str.ofString "own", Str.ofString "rule", Str.ofString "there"]) fun _ _ _ _ _ _ us hl => match us, hl with | [_, _, _, _], _ => rfl
theorem ok_Course_init {P : Program} {w : World} {K : PySem.W.Frag} {mg : Str → Option Value} {base : Heap} (T : BT mg) (Z : CT K mg) (R : RawM K mg (Str.ofString "Course") (Str.ofString "__init__") (Str.ofString "Course.__init__") st_Course_init)
    (G_Course_order : Dm P w K mg base (Str.ofString "Course") (Str.ofString "order") (Str.ofString "Course.order") st_Course_order 5 [Str.ofString "self", Str.ofString "there"] m_Course_order 2)
    (G_Course_come : Dm P w K mg base (Str.ofString "Course") (Str.ofString "come") (Str.ofString "Course.come") st_Course_come 4 [Str.ofString "self", Str.ofString "number"] m_Course_come 2) : Dm P w K mg base (Str.ofString "Course") (Str.ofString "__init__") (Str.ofString "Course.__init__") st_Course_init 6 [Str.ofString "self", Str.ofString "own", Str.ofString "rule", Str.ofString "there"] m_Course_init 4 :=
  dm_of (N := [Str.ofString "self", Str.ofString "own", Str.ofString "rule", Str.ofString "there", Str.ofString "number"]) (k := 5) R bd_Course_init sc_Course_init rfl fun f cdv A outer s H E hr => (ss_cons (s1_attr Z.k_Course 2 (se_var 1) (se_var 0))
  (ss_cons (s1_attr Z.k_Course 1 (se_var 2) (se_var 0))
  (ss_cons (s1_attr Z.k_Course 3 (sc_new (sc_lst sa_nil)) (se_var 0))
  (ss_cons (s1_attr Z.k_Course 0 (sc_new sc_dict0) (se_var 0))
  (ss_one (s1_for (vs := [4]) (passes_of rfl) rfl (si_seq (sd_meth (H0 := (fun a as => mCall m_Course_order 2 (aCons a as))) G_Course_order (hr.mono (by decide)) (se_var 0) (sa_cons (se_var 3) sa_nil) (fun _ _ _ _ _ => g_call) rfl)) (sg_name (by decide) sc_Course_init.nd rfl (.inl rfl)) (ss_one (s1_expr (sd_meth (H0 := (fun a as => mCall m_Course_come 2 (aCons a as))) G_Course_come (hr.mono (by decide)) (se_var 0) (sa_cons (se_var 4) sa_nil) (fun _ _ _ _ _ => g_call) rfl)))))))))
abbrev st_course_of : Stmt := PySem.Challenge.pw_saveclash_k04_seen_without_alone.main.body.getD 12 (.Pass ⟨0, 0, 0, 0⟩)
theorem sc_course_of : FnScope [Str.ofString "sessions", Str.ofString "rule", Str.ofString "own"] [Str.ofString "sessions", Str.ofString "rule"] (defScope st_course_of) := ⟨rfl, rfl, rfl, by decide +kernel, rfl, by decide +kernel, by decide +kernel⟩
theorem bd_course_of {K : PySem.W.Frag} : ∀ f fd, Fun K (Str.ofString "course_of") (Str.ofString "course_of") st_course_of f fd → Binds K fd [Str.ofString "sessions", Str.ofString "rule"] [] := fun f fd F => F.binds (ps := [Str.ofString "sessions", Str.ofString "rule"]) fun _ _ _ _ _ _ us hl => match us, hl with | [_, _], _ => rfl
theorem ok_course_of {P : Program} {w : World} {K : PySem.W.Frag} {mg : Str → Option Value} {base : Heap} (T : BT mg) (Z : CT K mg) (R : Raw K mg (Str.ofString "course_of") st_course_of)
    (G_Sessions_init : Dm P w K mg base (Str.ofString "Sessions") (Str.ofString "__init__") (Str.ofString "Sessions.__init__") st_Sessions_init 15 [Str.ofString "self", Str.ofString "sessions"] m_Sessions_init 2)
    (G_Sessions_numbers : Dm P w K mg base (Str.ofString "Sessions") (Str.ofString "numbers") (Str.ofString "Sessions.numbers") st_Sessions_numbers 1 [Str.ofString "self"] m_Sessions_numbers 1)
    (G_Course_init : Dm P w K mg base (Str.ofString "Course") (Str.ofString "__init__") (Str.ofString "Course.__init__") st_Course_init 6 [Str.ofString "self", Str.ofString "own", Str.ofString "rule", Str.ofString "there"] m_Course_init 4) : Df P w K mg base (Str.ofString "course_of") st_course_of 17 [Str.ofString "sessions", Str.ofString "rule"] m_course_of 2 :=
  df_of (N := [Str.ofString "sessions", Str.ofString "rule", Str.ofString "own"]) (k := 16) R bd_course_of sc_course_of rfl fun f cdv A outer s H E hr => (ss_cons (s1_set sc_course_of.nd rfl (.inl rfl) (sd_make Z.k_Sessions G_Sessions_init (hr.mono (by decide)) (sa_cons (se_var 0) sa_nil)).1)
  (ss_one (s1_ret (sd_make Z.k_Course G_Course_init (hr.mono (by decide)) (sa_cons (se_var 2) (sa_cons (se_var 1) (sa_cons (sd_meth0 (H0 := (fun a as => mCallR false m_Sessions_numbers 1 (aCons a as))) G_Sessions_numbers (hr.mono (by decide)) (se_var 2) (fun _ _ _ _ _ => g_callR) rfl) sa_nil)))).1)))
abbrev st_accepted : Stmt := PySem.Challenge.pw_saveclash_k04_seen_without_alone.main.body.getD 13 (.Pass ⟨0, 0, 0, 0⟩)
theorem sc_accepted : FnScope [Str.ofString "sessions", Str.ofString "rule"] [Str.ofString "sessions", Str.ofString "rule"] (defScope st_accepted) := ⟨rfl, rfl, rfl, by decide +kernel, rfl, by decide +kernel, by decide +kernel⟩
theorem bd_accepted {K : PySem.W.Frag} : ∀ f fd, Fun K (Str.ofString "accepted") (Str.ofString "accepted") st_accepted f fd → Binds K fd [Str.ofString "sessions", Str.ofString "rule"] [] := fun f fd F => F.binds (ps := [Str.ofString "sessions", Str.ofString "rule"]) fun _ _ _ _ _ _ us hl => match us, hl with | [_, _], _ => rfl
theorem ok_accepted {P : Program} {w : World} {K : PySem.W.Frag} {mg : Str → Option Value} {base : Heap} (T : BT mg) (Z : CT K mg) (R : Raw K mg (Str.ofString "accepted") st_accepted)
    (G_Course_let_by : Dm P w K mg base (Str.ofString "Course") (Str.ofString "let_by") (Str.ofString "Course.let_by") st_Course_let_by 1 [Str.ofString "self"] m_Course_let_by 1)
    (G_course_of : Df P w K mg base (Str.ofString "course_of") st_course_of 17 [Str.ofString "sessions", Str.ofString "rule"] m_course_of 2) : Df P w K mg base (Str.ofString "accepted") st_accepted 18 [Str.ofString "sessions", Str.ofString "rule"] m_accepted 2 :=
  df_of (N := [Str.ofString "sessions", Str.ofString "rule"]) (k := 17) R bd_accepted sc_accepted rfl fun f cdv A outer s H E hr => (ss_one (s1_ret (sd_meth0 (H0 := (fun a as => mCallR false m_Course_let_by 1 (aCons a as))) G_Course_let_by (hr.mono (by decide)) (sd_callR (bx := false) G_course_of (hr.mono (by decide)) (sa_cons (se_var 0) (sa_cons (se_var 1) sa_nil))) (fun _ _ _ _ _ => g_callR) rfl)))
abbrev st_seen_by : Stmt := PySem.Challenge.pw_saveclash_k04_seen_without_alone.main.body.getD 14 (.Pass ⟨0, 0, 0, 0⟩)
theorem sc_seen_by : FnScope [Str.ofString "sessions", Str.ofString "rule", Str.ofString "number", Str.ofString "own", Str.ofString "beat", Str.ofString "other"] [Str.ofString "sessions", Str.ofString "rule", Str.ofString "number"] (defScope st_seen_by) := ⟨rfl, rfl, rfl, by decide +kernel, rfl, by decide +kernel, by decide +kernel⟩
theorem bd_seen_by {K : PySem.W.Frag} : ∀ f fd, Fun K (Str.ofString "seen_by") (Str.ofString "seen_by") st_seen_by f fd → Binds K fd [Str.ofString "sessions", Str.ofString "rule", Str.ofString "number"] [] := fun f fd F => F.binds (ps := [Str.ofString "sessions", Str.ofString "rule", Str.ofString "number"]) fun _ _ _ _ _ _ us hl => match us, hl with | [_, _, _], _ => rfl
theorem ok_seen_by {P : Program} {w : World} {K : PySem.W.Frag} {mg : Str → Option Value} {base : Heap} (T : BT mg) (Z : CT K mg) (R : Raw K mg (Str.ofString "seen_by") st_seen_by)
    (G_Sessions_init : Dm P w K mg base (Str.ofString "Sessions") (Str.ofString "__init__") (Str.ofString "Sessions.__init__") st_Sessions_init 15 [Str.ofString "self", Str.ofString "sessions"] m_Sessions_init 2)
    (G_Sessions_check : Dm P w K mg base (Str.ofString "Sessions") (Str.ofString "check") (Str.ofString "Sessions.check") st_Sessions_check 1 [Str.ofString "self", Str.ofString "number"] m_Sessions_check 2)
    (G_Sessions_opening : Dm P w K mg base (Str.ofString "Sessions") (Str.ofString "opening") (Str.ofString "Sessions.opening") st_Sessions_opening 1 [Str.ofString "self", Str.ofString "number"] m_Sessions_opening 2)
    (G_Sessions_saving : Dm P w K mg base (Str.ofString "Sessions") (Str.ofString "saving") (Str.ofString "Sessions.saving") st_Sessions_saving 1 [Str.ofString "self", Str.ofString "number"] m_Sessions_saving 2)
    (G_accepted : Df P w K mg base (Str.ofString "accepted") st_accepted 18 [Str.ofString "sessions", Str.ofString "rule"] m_accepted 2) : Df P w K mg base (Str.ofString "seen_by") st_seen_by 19 [Str.ofString "sessions", Str.ofString "rule", Str.ofString "number"] m_seen_by 3 :=
  df_of (N := [Str.ofString "sessions", Str.ofString "rule", Str.ofString "number", Str.ofString "own", Str.ofString "beat", Str.ofString "other"]) (k := 18) R bd_seen_by sc_seen_by rfl fun f cdv A outer s H E hr => (ss_cons (s1_set sc_seen_by.nd rfl (.inr rfl) (sd_make Z.k_Sessions G_Sessions_init (hr.mono (by decide)) (sa_cons (se_var 0) sa_nil)).1)
  (ss_cons (s1_set sc_seen_by.nd rfl (.inr rfl) (sd_meth (H0 := (fun a as => mCallR false m_Sessions_opening 2 (aCons a as))) G_Sessions_opening (hr.mono (by decide)) (se_var 3) (sa_cons (sd_meth (H0 := (fun a as => mCallR false m_Sessions_check 2 (aCons a as))) G_Sessions_check (hr.mono (by decide)) (se_var 3) (sa_cons (se_var 2) sa_nil) (fun _ _ _ _ _ => g_callR) rfl) sa_nil) (fun _ _ _ _ _ => g_callR) rfl))
  (ss_one (s1_ret (se_tuple (by rfl) T.b_tuple (sc_frz (sc_comp rfl sc_seen_by.nd (si_seq (sd_callR (bx := false) G_accepted (hr.mono (by decide)) (sa_cons (se_var 0) (sa_cons (se_var 1) sa_nil)))) (blkOk_by (own := [(Str.ofString "other", 5)]) (by kernel_rfl)) (fun _ _ _ _ _ => (sg_name (by decide) sc_seen_by.nd rfl (.inl rfl))) (fun _ _ _ _ _ => (sts_one (st_le (sd_meth (H0 := (fun a as => mCallR false m_Sessions_saving 2 (aCons a as))) G_Sessions_saving (hr.mono (by decide)) (se_var 3) (sa_cons (se_var 5) sa_nil) (fun _ _ _ _ _ => g_callR) rfl) (se_var 4)))) (fun _ _ _ _ _ => (se_var 5)))))))))
abbrev st_without : Stmt := PySem.Challenge.pw_saveclash_k04_seen_without_alone.main.body.getD 15 (.Pass ⟨0, 0, 0, 0⟩)
theorem sc_without : FnScope [Str.ofString "sessions", Str.ofString "rule", Str.ofString "number", Str.ofString "own", Str.ofString "gone", Str.ofString "left", Str.ofString "other", Str.ofString "ahead", Str.ofString "later", Str.ofString "lost"] [Str.ofString "sessions", Str.ofString "rule", Str.ofString "number"] (defScope st_without) := ⟨rfl, rfl, rfl, by decide +kernel, rfl, by decide +kernel, by decide +kernel⟩
theorem bd_without {K : PySem.W.Frag} : ∀ f fd, Fun K (Str.ofString "without") (Str.ofString "without") st_without f fd → Binds K fd [Str.ofString "sessions", Str.ofString "rule", Str.ofString "number"] [] := fun f fd F => F.binds (ps := [Str.ofString "sessions", Str.ofString "rule", Str.ofString "number"]) fun _ _ _ _ _ _ us hl => match us, hl with | [_, _, _], _ => rfl
theorem ok_without {P : Program} {w : World} {K : PySem.W.Frag} {mg : Str → Option Value} {base : Heap} (T : BT mg) (Z : CT K mg) (R : Raw K mg (Str.ofString "without") st_without)
    (G_Sessions_init : Dm P w K mg base (Str.ofString "Sessions") (Str.ofString "__init__") (Str.ofString "Sessions.__init__") st_Sessions_init 15 [Str.ofString "self", Str.ofString "sessions"] m_Sessions_init 2)
    (G_Sessions_check : Dm P w K mg base (Str.ofString "Sessions") (Str.ofString "check") (Str.ofString "Sessions.check") st_Sessions_check 1 [Str.ofString "self", Str.ofString "number"] m_Sessions_check 2)
    (G_Course_let_by : Dm P w K mg base (Str.ofString "Course") (Str.ofString "let_by") (Str.ofString "Course.let_by") st_Course_let_by 1 [Str.ofString "self"] m_Course_let_by 1)
    (G_Sessions_numbers : Dm P w K mg base (Str.ofString "Sessions") (Str.ofString "numbers") (Str.ofString "Sessions.numbers") st_Sessions_numbers 1 [Str.ofString "self"] m_Sessions_numbers 1)
    (G_Course_init : Dm P w K mg base (Str.ofString "Course") (Str.ofString "__init__") (Str.ofString "Course.__init__") st_Course_init 6 [Str.ofString "self", Str.ofString "own", Str.ofString "rule", Str.ofString "there"] m_Course_init 4)
    (G_accepted : Df P w K mg base (Str.ofString "accepted") st_accepted 18 [Str.ofString "sessions", Str.ofString "rule"] m_accepted 2) : Df P w K mg base (Str.ofString "without") st_without 19 [Str.ofString "sessions", Str.ofString "rule", Str.ofString "number"] m_without 3 :=
  df_of (N := [Str.ofString "sessions", Str.ofString "rule", Str.ofString "number", Str.ofString "own", Str.ofString "gone", Str.ofString "left", Str.ofString "other", Str.ofString "ahead", Str.ofString "later", Str.ofString "lost"]) (k := 18) R bd_without sc_without rfl fun f cdv A outer s H E hr => (ss_cons (s1_set sc_without.nd rfl (.inl rfl) (sd_make Z.k_Sessions G_Sessions_init (hr.mono (by decide)) (sa_cons (se_var 0) sa_nil)).1)
  (ss_cons (s1_set sc_without.nd rfl (.inr rfl) (sd_meth (H0 := (fun a as => mCallR false m_Sessions_check 2 (aCons a as))) G_Sessions_check (hr.mono (by decide)) (se_var 3) (sa_cons (se_var 2) sa_nil) (fun _ _ _ _ _ => g_callR) rfl))
  (ss_cons (s1_comp rfl sc_without.nd rfl rfl (si_seq (sd_meth0 (H0 := (fun a as => mCallR false m_Sessions_numbers 1 (aCons a as))) G_Sessions_numbers (hr.mono (by decide)) (se_var 3) (fun _ _ _ _ _ => g_callR) rfl)) (blkOk_by (own := [(Str.ofString "other", 6)]) (by kernel_rfl)) (fun _ _ _ _ _ => (sg_name (by decide) sc_without.nd rfl (.inl rfl))) (fun _ _ _ _ _ => (sts_one (st_ne hr.units (se_var 6) (se_var 4)))) (fun _ _ _ _ _ => (se_var 6))).1
  (ss_cons (s1_asg (vs := [7, 8]) (se_tup (sa_cons (sd_callR (bx := false) G_accepted (hr.mono (by decide)) (sa_cons (se_var 0) (sa_cons (se_var 1) sa_nil))) (sa_cons (sd_meth0 (H0 := (fun a as => mCallR false m_Course_let_by 1 (aCons a as))) G_Course_let_by (hr.mono (by decide)) (sd_make Z.k_Course G_Course_init (hr.mono (by decide)) (sa_cons (se_var 3) (sa_cons (se_var 1) (sa_cons (se_var 5) sa_nil)))).1 (fun _ _ _ _ _ => g_callR) rfl) sa_nil))) (sg_tup rfl (sgs_cons (sg_name (by decide) sc_without.nd rfl (.inr rfl)) (sgs_cons (sg_name (by decide) sc_without.nd rfl (.inr rfl)) sgs_nil))))
  (ss_cons (s1_set sc_without.nd rfl (.inl rfl) (se_tuple (by rfl) T.b_tuple (sc_frz (sc_comp rfl sc_without.nd (si_seq (se_var 7)) (blkOk_by (own := [(Str.ofString "other", 6)]) (by kernel_rfl)) (fun _ _ _ _ _ => (sg_name (by decide) sc_without.nd rfl (.inl rfl))) (fun _ _ _ _ _ => (sts_one (st_sw (sw_and (st_notIn (se_var 6) (se_var 8)) (sw_and1 (st_ne hr.units (se_var 6) (se_var 2))))))) (fun _ _ _ _ _ => (se_var 6))))))
  (ss_one (s1_ret (se_tup (sa_cons (se_tuple (by rfl) T.b_tuple (sc_frz (sc_comp rfl sc_without.nd (si_seq (se_var 8)) (blkOk_by (own := [(Str.ofString "other", 6)]) (by kernel_rfl)) (fun _ _ _ _ _ => (sg_name (by decide) sc_without.nd rfl (.inl rfl))) (fun _ _ _ _ _ => (sts_one (st_notIn (se_var 6) (se_var 7)))) (fun _ _ _ _ _ => (se_var 6))))) (sa_cons (se_var 9) sa_nil))))))))))
abbrev st_alone : Stmt := PySem.Challenge.pw_saveclash_k04_seen_without_alone.main.body.getD 16 (.Pass ⟨0, 0, 0, 0⟩)
theorem sc_alone : FnScope [Str.ofString "sessions", Str.ofString "rule", Str.ofString "own", Str.ofString "some", Str.ofString "crossed", Str.ofString "number", Str.ofString "other"] [Str.ofString "sessions", Str.ofString "rule"] (defScope st_alone) := ⟨rfl, rfl, rfl, by decide +kernel, rfl, by decide +kernel, by decide +kernel⟩
theorem bd_alone {K : PySem.W.Frag} : ∀ f fd, Fun K (Str.ofString "alone") (Str.ofString "alone") st_alone f fd → Binds K fd [Str.ofString "sessions", Str.ofString "rule"] [] := fun f fd F => F.binds (ps := [Str.ofString "sessions", Str.ofString "rule"]) fun _ _ _ _ _ _ us hl => match us, hl with | [_, _], _ => rfl
theorem ok_alone {P : Program} {w : World} {K : PySem.W.Frag} {mg : Str → Option Value} {base : Heap} (T : BT mg) (Z : CT K mg) (R : Raw K mg (Str.ofString "alone") st_alone)
    (G_Sessions_init : Dm P w K mg base (Str.ofString "Sessions") (Str.ofString "__init__") (Str.ofString "Sessions.__init__") st_Sessions_init 15 [Str.ofString "self", Str.ofString "sessions"] m_Sessions_init 2)
    (G_Sessions_is_between : Dm P w K mg base (Str.ofString "Sessions") (Str.ofString "is_between") (Str.ofString "Sessions.is_between") st_Sessions_is_between 2 [Str.ofString "self", Str.ofString "number", Str.ofString "other"] m_Sessions_is_between 3)
    (G_accepted : Df P w K mg base (Str.ofString "accepted") st_accepted 18 [Str.ofString "sessions", Str.ofString "rule"] m_accepted 2) : Df P w K mg base (Str.ofString "alone") st_alone 19 [Str.ofString "sessions", Str.ofString "rule"] m_alone 2 :=
  df_of (N := [Str.ofString "sessions", Str.ofString "rule", Str.ofString "own", Str.ofString "some", Str.ofString "crossed", Str.ofString "number", Str.ofString "other"]) (k := 18) R bd_alone sc_alone rfl fun f cdv A outer s H E hr => (ss_cons (s1_asg (vs := [2, 3]) (se_tup (sa_cons (sd_make Z.k_Sessions G_Sessions_init (hr.mono (by decide)) (sa_cons (se_var 0) sa_nil)).1 (sa_cons (sd_callR (bx := false) G_accepted (hr.mono (by decide)) (sa_cons (se_var 0) (sa_cons (se_var 1) sa_nil))) sa_nil))) (sg_tup rfl (sgs_cons (sg_name (by decide) sc_alone.nd rfl (.inr rfl)) (sgs_cons (sg_name (by decide) sc_alone.nd rfl (.inr rfl)) sgs_nil))))
  (ss_cons (s1_set sc_alone.nd rfl (.inr rfl) (sc_frz (sc_comp2 rfl sc_alone.nd (si_seq (se_var 3)) (blkOk_by (own := [(Str.ofString "number", 5), (Str.ofString "other", 6)]) (by kernel_rfl)) (vs1 := [6]) (by decide) (fun _ _ _ _ _ => (sg_name (by decide) sc_alone.nd rfl (.inl rfl))) (fun _ _ _ _ _ => sts_nil) (fun _ _ _ _ _ => (si_seq (se_var 3))) (fun _ _ _ _ _ => (sg_name (by decide) sc_alone.nd rfl (.inl rfl))) (fun _ _ _ _ _ => (sts_one (st_sw (sw_or (st_tru (sd_meth (H0 := (fun a as => mCallR false m_Sessions_is_between 3 (aCons a as))) G_Sessions_is_between (hr.mono (by decide)) (se_var 2) (sa_cons (se_var 5) (sa_cons (se_var 6) sa_nil)) (fun _ _ _ _ _ => g_callR) rfl)) (sw_or1 (st_tru (sd_meth (H0 := (fun a as => mCallR false m_Sessions_is_between 3 (aCons a as))) G_Sessions_is_between (hr.mono (by decide)) (se_var 2) (sa_cons (se_var 6) (sa_cons (se_var 5) sa_nil)) (fun _ _ _ _ _ => g_callR) rfl))))))) (fun _ _ _ _ _ => (se_var 5)))))
  (ss_one (s1_ret (se_tuple (by rfl) T.b_tuple (sc_frz (sc_comp rfl sc_alone.nd (si_seq (se_var 3)) (blkOk_by (own := [(Str.ofString "number", 5)]) (by kernel_rfl)) (fun _ _ _ _ _ => (sg_name (by decide) sc_alone.nd rfl (.inl rfl))) (fun _ _ _ _ _ => (sts_one (st_notIn (se_var 5) (se_var 4)))) (fun _ _ _ _ _ => (se_var 5)))))))))
abbrev st_law_same : Stmt := PySem.Challenge.pw_saveclash_k04_seen_without_alone.main.body.getD 23 (.Pass ⟨0, 0, 0, 0⟩)
theorem sc_law_same : FnScope [Str.ofString "_law_found", Str.ofString "_law_due", Str.ofString "_law_mine", Str.ofString "_law_its"] [Str.ofString "_law_found", Str.ofString "_law_due"] (defScope st_law_same) := ⟨rfl, rfl, rfl, by decide +kernel, rfl, by decide +kernel, by decide +kernel⟩
theorem bd_law_same {K : PySem.W.Frag} : ∀ f fd, Fun K (Str.ofString "_law_same") (Str.ofString "_law_same") st_law_same f fd → Binds K fd [Str.ofString "_law_found", Str.ofString "_law_due"] [] := fun f fd F => F.binds (ps := [Str.ofString "_law_found", Str.ofString "_law_due"]) fun _ _ _ _ _ _ us hl => match us, hl with | [_, _], _ => rfl
theorem ok_law_same {P : Program} {w : World} {K : PySem.W.Frag} {mg : Str → Option Value} {base : Heap} (T : BT mg) (Z : CT K mg) (R : Raw K mg (Str.ofString "_law_same") st_law_same) : ∀ n, Df P w K mg base (Str.ofString "_law_same") st_law_same n [Str.ofString "_law_found", Str.ofString "_law_due"] (m_law_same n) 2
  | 0 => df_none R bd_law_same rfl
  | n + 1 =>
    have ih := ok_law_same T Z R n
    df_of (N := [Str.ofString "_law_found", Str.ofString "_law_due", Str.ofString "_law_mine", Str.ofString "_law_its"]) R bd_law_same sc_law_same rfl fun f cdv A outer s H E hr => (ss_cons (s1_if (st_tru (se_isi2 .lst .tup (by decide) (by decide) (by rfl) T.b_isinstance (by rfl) T.b_list (by decide +kernel) (by rfl) T.b_tuple (by decide +kernel) (se_var 1))) (ss_cons (s1_if (st_sw (sw_or (st_ne hr.units (se_isi .lst (by decide) (by rfl) T.b_isinstance (by rfl) T.b_list (by decide +kernel) (se_var 0)) (se_isi .lst (by decide) (by rfl) T.b_isinstance (by rfl) T.b_list (by decide +kernel) (se_var 1))) (sw_or1 (st_ne hr.units (se_isi .tup (by decide) (by rfl) T.b_isinstance (by rfl) T.b_tuple (by decide +kernel) (se_var 0)) (se_isi .tup (by decide) (by rfl) T.b_isinstance (by rfl) T.b_tuple (by decide +kernel) (se_var 1)))))) (ss_one (s1_ret se_bl)) ss_nil)
  (ss_one (s1_ret (se_and (se_eq hr.units (se_len (by rfl) T.b_len (se_var 0)) (se_len (by rfl) T.b_len (se_var 1))) (se_one (se_all rfl (by rfl) T.b_all (sc_frz (sc_comp rfl sc_law_same.nd (si_zip (by rfl) T.b_zip (se_var 0) (se_var 1)) (blkOk_by (own := [(Str.ofString "_law_mine", 2), (Str.ofString "_law_its", 3)]) (by kernel_rfl)) (fun _ _ _ _ _ => (sg_tup rfl (sgs_cons (sg_name (by decide) sc_law_same.nd rfl (.inl rfl)) (sgs_cons (sg_name (by decide) sc_law_same.nd rfl (.inl rfl)) sgs_nil)))) (fun _ _ _ _ _ => sts_nil) (fun _ _ _ _ _ => (sd_callR (bx := false) ih (hr.mono (by omega)) (sa_cons (se_var 2) (sa_cons (se_var 3) sa_nil)))))))))))) ss_nil)
  (ss_cons (s1_if (st_sw (sw_or (st_is (se_var 1) se_non) (sw_or1 (st_tru (se_isi2 .bl .str (by decide) (by decide) (by rfl) T.b_isinstance (by rfl) T.b_bool (by decide +kernel) (by rfl) T.b_str (by decide +kernel) (se_var 1)))))) (ss_one (s1_ret (se_and (se_eq hr.units (se_var 0) (se_var 1)) (se_and (se_eq hr.units (se_isi .bl (by decide) (by rfl) T.b_isinstance (by rfl) T.b_bool (by decide +kernel) (se_var 0)) (se_isi .bl (by decide) (by rfl) T.b_isinstance (by rfl) T.b_bool (by decide +kernel) (se_var 1))) (se_one (se_eq hr.units (se_is (se_var 0) se_non) (se_is (se_var 1) se_non))))))) ss_nil)
  (ss_one (s1_ret (se_and (se_isi .int (by decide) (by rfl) T.b_isinstance (by rfl) T.b_int (by decide +kernel) (se_var 0)) (se_and (se_not (se_isi .bl (by decide) (by rfl) T.b_isinstance (by rfl) T.b_bool (by decide +kernel) (se_var 0))) (se_one (se_eq hr.units (se_var 0) (se_var 1)))))))))
abbrev st_law_known_right : Stmt := PySem.Challenge.pw_saveclash_k04_seen_without_alone.main.body.getD 28 (.Pass ⟨0, 0, 0, 0⟩)
theorem sc_law_known_right : FnScope [Str.ofString "_law_day", Str.ofString "_law_told", Str.ofString "_law_due", Str.ofString "_law_some"] [] (defScope st_law_known_right) := ⟨rfl, rfl, rfl, by decide +kernel, rfl, by decide +kernel, by decide +kernel⟩
theorem bd_law_known_right {K : PySem.W.Frag} : ∀ f fd, Fun K (Str.ofString "_law_known_right") (Str.ofString "_law_known_right") st_law_known_right f fd → Binds K fd [] [] := fun f fd F => F.binds (ps := []) fun _ _ _ _ _ _ us hl => match us, hl with | [], _ => rfl
theorem ok_law_known_right {P : Program} {w : World} {K : PySem.W.Frag} {mg : Str → Option Value} {base : Heap} (T : BT mg) (Z : CT K mg) (R : Raw K mg (Str.ofString "_law_known_right") st_law_known_right)
    (G_seen_by : Df P w K mg base (Str.ofString "seen_by") st_seen_by 19 [Str.ofString "sessions", Str.ofString "rule", Str.ofString "number"] m_seen_by 3)
    (G_without : Df P w K mg base (Str.ofString "without") st_without 19 [Str.ofString "sessions", Str.ofString "rule", Str.ofString "number"] m_without 3)
    (G_alone : Df P w K mg base (Str.ofString "alone") st_alone 19 [Str.ofString "sessions", Str.ofString "rule"] m_alone 2)
    (G_law_same : ∀ n, Df P w K mg base (Str.ofString "_law_same") st_law_same n [Str.ofString "_law_found", Str.ofString "_law_due"] (m_law_same n) 2) : Df P w K mg base (Str.ofString "_law_known_right") st_law_known_right 20 [] m_law_known_right 0 :=
  df_of (N := [Str.ofString "_law_day", Str.ofString "_law_told", Str.ofString "_law_due", Str.ofString "_law_some"]) (k := 19) R bd_law_known_right sc_law_known_right rfl fun f cdv A outer s H E hr => (ss_cons (s1_set sc_law_known_right.nd rfl (.inl rfl) (se_tup (sa_cons (se_tup (sa_cons se_int (sa_cons se_int (sa_cons (se_tup (sa_cons se_str sa_nil)) sa_nil)))) (sa_cons (se_tup (sa_cons se_int (sa_cons se_int (sa_cons (se_tup (sa_cons se_str sa_nil)) sa_nil)))) (sa_cons (se_tup (sa_cons se_int (sa_cons se_int (sa_cons (se_tup (sa_cons se_str (sa_cons se_str sa_nil))) sa_nil)))) (sa_cons (se_tup (sa_cons se_int (sa_cons se_int (sa_cons (se_tup (sa_cons se_str sa_nil)) sa_nil)))) sa_nil))))))
  (ss_cons (s1_set sc_law_known_right.nd rfl (.inl rfl) (sc_frz (sc_lst (sa_cons (sd_callR (bx := false) G_seen_by (hr.mono (by decide)) (sa_cons (se_var 0) (sa_cons se_str (sa_cons se_int sa_nil)))) (sa_cons (sd_callR (bx := false) G_seen_by (hr.mono (by decide)) (sa_cons (se_var 0) (sa_cons se_str (sa_cons se_int sa_nil)))) (sa_cons (sd_callR (bx := false) G_seen_by (hr.mono (by decide)) (sa_cons (se_var 0) (sa_cons se_str (sa_cons se_int sa_nil)))) (sa_cons (sd_callR (bx := false) G_seen_by (hr.mono (by decide)) (sa_cons (se_var 0) (sa_cons se_str (sa_cons se_int sa_nil)))) sa_nil)))))))
  (ss_cons (s1_set sc_law_known_right.nd rfl (.inl rfl) (sc_frz (sc_add (se_var 1) (sc_frz (sc_lst (sa_cons (sd_callR (bx := false) G_without (hr.mono (by decide)) (sa_cons (se_var 0) (sa_cons se_str (sa_cons se_int sa_nil)))) (sa_cons (sd_callR (bx := false) G_without (hr.mono (by decide)) (sa_cons (se_var 0) (sa_cons se_str (sa_cons se_int sa_nil)))) (sa_cons (sd_callR (bx := false) G_without (hr.mono (by decide)) (sa_cons (se_var 0) (sa_cons se_str (sa_cons se_int sa_nil)))) sa_nil))))))))
  (ss_cons (s1_set sc_law_known_right.nd rfl (.inl rfl) (sc_frz (sc_add (se_var 1) (sc_frz (sc_lst (sa_cons (sd_callR (bx := false) G_without (hr.mono (by decide)) (sa_cons (se_var 0) (sa_cons se_str (sa_cons se_int sa_nil)))) (sa_cons (sd_callR (bx := false) G_without (hr.mono (by decide)) (sa_cons (se_var 0) (sa_cons se_str (sa_cons se_int sa_nil)))) sa_nil)))))))
  (ss_cons (s1_set sc_law_known_right.nd rfl (.inl rfl) (sc_frz (sc_add (se_var 1) (sc_frz (sc_lst (sa_cons (sd_callR (bx := false) G_alone (hr.mono (by decide)) (sa_cons (se_var 0) (sa_cons se_str sa_nil))) (sa_cons (sd_callR (bx := false) G_alone (hr.mono (by decide)) (sa_cons (se_var 0) (sa_cons se_str sa_nil))) (sa_cons (sd_callR (bx := false) G_alone (hr.mono (by decide)) (sa_cons (se_var 0) (sa_cons se_str sa_nil))) (sa_cons (sd_callR (bx := false) G_alone (hr.mono (by decide)) (sa_cons (se_tup sa_nil) (sa_cons se_str sa_nil))) sa_nil)))))))))
  (ss_cons (s1_set sc_law_known_right.nd rfl (.inl rfl) (sc_frz (sc_lst (sa_cons (se_tup (sa_cons se_int (sa_cons se_int sa_nil))) (sa_cons (se_tup (sa_cons se_int sa_nil)) (sa_cons (se_tup (sa_cons se_int sa_nil)) (sa_cons (se_tup sa_nil) (sa_cons (se_tup (sa_cons (se_tup (sa_cons se_int (sa_cons se_int sa_nil))) (sa_cons (se_tup (sa_cons se_int sa_nil)) sa_nil))) (sa_cons (se_tup (sa_cons (se_tup (sa_cons se_int sa_nil)) (sa_cons (se_tup (sa_cons se_int sa_nil)) sa_nil))) (sa_cons (se_tup (sa_cons (se_tup sa_nil) (sa_cons (se_tup sa_nil) sa_nil))) (sa_cons (se_tup (sa_cons (se_tup sa_nil) (sa_cons (se_tup sa_nil) sa_nil))) (sa_cons (se_tup (sa_cons (se_tup sa_nil) (sa_cons (se_tup sa_nil) sa_nil))) (sa_cons (se_tup (sa_cons se_int sa_nil)) (sa_cons (se_tup sa_nil) (sa_cons (se_tup (sa_cons se_int (sa_cons se_int sa_nil))) (sa_cons (se_tup sa_nil) sa_nil))))))))))))))))
  (ss_cons (s1_set sc_law_known_right.nd rfl (.inl rfl) (se_tup (sa_cons (se_tup (sa_cons se_int (sa_cons se_int (sa_cons (se_tup (sa_cons se_str sa_nil)) sa_nil)))) (sa_cons (se_tup (sa_cons se_int (sa_cons se_int (sa_cons (se_tup (sa_cons se_str sa_nil)) sa_nil)))) (sa_cons (se_tup (sa_cons se_int (sa_cons se_int (sa_cons (se_tup (sa_cons se_str sa_nil)) sa_nil)))) (sa_cons (se_tup (sa_cons se_int (sa_cons se_int (sa_cons (se_tup (sa_cons se_str sa_nil)) sa_nil)))) (sa_cons (se_tup (sa_cons se_int (sa_cons se_int (sa_cons (se_tup (sa_cons se_str sa_nil)) sa_nil)))) sa_nil)))))))
  (ss_cons (s1_set sc_law_known_right.nd rfl (.inl rfl) (sc_frz (sc_add (se_var 1) (sc_frz (sc_lst (sa_cons (sd_callR (bx := false) G_without (hr.mono (by decide)) (sa_cons (se_var 3) (sa_cons se_str (sa_cons se_int sa_nil)))) (sa_cons (sd_callR (bx := false) G_without (hr.mono (by decide)) (sa_cons (se_var 3) (sa_cons se_str (sa_cons se_int sa_nil)))) (sa_cons (sd_callR (bx := false) G_seen_by (hr.mono (by decide)) (sa_cons (se_var 3) (sa_cons se_str (sa_cons se_int sa_nil)))) sa_nil))))))))
  (ss_one (s1_ret (sd_callR (bx := false) (G_law_same 14) (hr.mono (by decide)) (sa_cons (se_var 1) (sa_cons (sc_frz (sc_add (se_var 2) (sc_frz (sc_lst (sa_cons (se_tup (sa_cons (se_tup (sa_cons se_int (sa_cons se_int (sa_cons se_int sa_nil)))) (sa_cons (se_tup (sa_cons se_int sa_nil)) sa_nil))) (sa_cons (se_tup (sa_cons (se_tup sa_nil) (sa_cons (se_tup sa_nil) sa_nil))) (sa_cons (se_tup (sa_cons se_int sa_nil)) sa_nil))))))) sa_nil)))))))))))))
abbrev st_law_lists : Stmt := PySem.Challenge.pw_saveclash_k04_seen_without_alone.main.body.getD 22 (.Pass ⟨0, 0, 0, 0⟩)
theorem sc_law_lists : FnScope [Str.ofString "_law_matter", Str.ofString "_law_bit"] [Str.ofString "_law_matter"] (defScope st_law_lists) := ⟨rfl, rfl, rfl, by decide +kernel, rfl, by decide +kernel, by decide +kernel⟩
theorem bd_law_lists {K : PySem.W.Frag} : ∀ f fd, Fun K (Str.ofString "_law_lists") (Str.ofString "_law_lists") st_law_lists f fd → Binds K fd [Str.ofString "_law_matter"] [] := fun f fd F => F.binds (ps := [Str.ofString "_law_matter"]) fun _ _ _ _ _ _ us hl => match us, hl with | [_], _ => rfl
theorem ok_law_lists {P : Program} {w : World} {K : PySem.W.Frag} {mg : Str → Option Value} {base : Heap} (T : BT mg) (Z : CT K mg) (R : Raw K mg (Str.ofString "_law_lists") st_law_lists) : ∀ n, Df P w K mg base (Str.ofString "_law_lists") st_law_lists n [Str.ofString "_law_matter"] (m_law_lists n) 1
  | 0 => df_none R bd_law_lists rfl
  | n + 1 =>
    have ih := ok_law_lists T Z R n
    df_of (N := [Str.ofString "_law_matter", Str.ofString "_law_bit"]) R bd_law_lists sc_law_lists rfl fun f cdv A outer s H E hr => (ss_one (s1_ret (se_if (st_tru (se_isi2 .lst .tup (by decide) (by decide) (by rfl) T.b_isinstance (by rfl) T.b_list (by decide +kernel) (by rfl) T.b_tuple (by decide +kernel) (se_var 0))) (sc_frz (sc_comp rfl sc_law_lists.nd (si_seq (se_var 0)) (blkOk_by (own := [(Str.ofString "_law_bit", 1)]) (by kernel_rfl)) (fun _ _ _ _ _ => (sg_name (by decide) sc_law_lists.nd rfl (.inl rfl))) (fun _ _ _ _ _ => sts_nil) (fun _ _ _ _ _ => (sd_callR (bx := false) ih (hr.mono (by omega)) (sa_cons (se_var 1) sa_nil))))) (se_var 0))))
abbrev st_law_is_amid : Stmt := PySem.Challenge.pw_saveclash_k04_seen_without_alone.main.body.getD 25 (.Pass ⟨0, 0, 0, 0⟩)
theorem sc_law_is_amid : FnScope [Str.ofString "_law_rows", Str.ofString "_law_k", Str.ofString "_law_j"] [Str.ofString "_law_rows", Str.ofString "_law_k", Str.ofString "_law_j"] (defScope st_law_is_amid) := ⟨rfl, rfl, rfl, by decide +kernel, rfl, by decide +kernel, by decide +kernel⟩
theorem bd_law_is_amid {K : PySem.W.Frag} : ∀ f fd, Fun K (Str.ofString "_law_is_amid") (Str.ofString "_law_is_amid") st_law_is_amid f fd → Binds K fd [Str.ofString "_law_rows", Str.ofString "_law_k", Str.ofString "_law_j"] [] := fun f fd F => F.binds (ps := [Str.ofString "_law_rows", Str.ofString "_law_k", Str.ofString "_law_j"]) fun _ _ _ _ _ _ us hl => match us, hl with | [_, _, _], _ => rfl
theorem ok_law_is_amid {P : Program} {w : World} {K : PySem.W.Frag} {mg : Str → Option Value} {base : Heap} (T : BT mg) (Z : CT K mg) (R : Raw K mg (Str.ofString "_law_is_amid") st_law_is_amid) : Df P w K mg base (Str.ofString "_law_is_amid") st_law_is_amid 1 [Str.ofString "_law_rows", Str.ofString "_law_k", Str.ofString "_law_j"] m_law_is_amid 3 :=
  df_of (N := [Str.ofString "_law_rows", Str.ofString "_law_k", Str.ofString "_law_j"]) (k := 0) R bd_law_is_amid sc_law_is_amid rfl fun f cdv A outer s H E hr => (ss_one (s1_ret (se_chain (op_lt.or op_lt_str) (op_lt.or op_lt_str) cov_lt cov_lt (se_item (se_item (se_var 0) (se_var 2)) se_int) (se_item (se_item (se_var 0) (se_var 1)) se_int) (se_item (se_item (se_var 0) (se_var 2)) se_int))))
abbrev st_law_meet : Stmt := PySem.Challenge.pw_saveclash_k04_seen_without_alone.main.body.getD 26 (.Pass ⟨0, 0, 0, 0⟩)
theorem sc_law_meet : FnScope [Str.ofString "_law_rows", Str.ofString "_law_k", Str.ofString "_law_j", Str.ofString "_law_own"] [Str.ofString "_law_rows", Str.ofString "_law_k", Str.ofString "_law_j"] (defScope st_law_meet) := ⟨rfl, rfl, rfl, by decide +kernel, rfl, by decide +kernel, by decide +kernel⟩
theorem bd_law_meet {K : PySem.W.Frag} : ∀ f fd, Fun K (Str.ofString "_law_meet") (Str.ofString "_law_meet") st_law_meet f fd → Binds K fd [Str.ofString "_law_rows", Str.ofString "_law_k", Str.ofString "_law_j"] [] := fun f fd F => F.binds (ps := [Str.ofString "_law_rows", Str.ofString "_law_k", Str.ofString "_law_j"]) fun _ _ _ _ _ _ us hl => match us, hl with | [_, _, _], _ => rfl
theorem ok_law_meet {P : Program} {w : World} {K : PySem.W.Frag} {mg : Str → Option Value} {base : Heap} (T : BT mg) (Z : CT K mg) (R : Raw K mg (Str.ofString "_law_meet") st_law_meet) : Df P w K mg base (Str.ofString "_law_meet") st_law_meet 1 [Str.ofString "_law_rows", Str.ofString "_law_k", Str.ofString "_law_j"] m_law_meet 3 :=
  df_of (N := [Str.ofString "_law_rows", Str.ofString "_law_k", Str.ofString "_law_j", Str.ofString "_law_own"]) (k := 0) R bd_law_meet sc_law_meet rfl fun f cdv A outer s H E hr => (ss_one (s1_ret (se_tuple (by rfl) T.b_tuple (sc_frz (sc_comp rfl sc_law_meet.nd (si_seq (se_item (se_item (se_var 0) (se_var 1)) se_int)) (blkOk_by (own := [(Str.ofString "_law_own", 3)]) (by kernel_rfl)) (fun _ _ _ _ _ => (sg_name (by decide) sc_law_meet.nd rfl (.inl rfl))) (fun _ _ _ _ _ => (sts_one (st_in (se_var 3) (se_item (se_item (se_var 0) (se_var 2)) se_int)))) (fun _ _ _ _ _ => (se_var 3)))))))
abbrev st_law_let : Stmt := PySem.Challenge.pw_saveclash_k04_seen_without_alone.main.body.getD 27 (.Pass ⟨0, 0, 0, 0⟩)
theorem sc_law_let : FnScope [Str.ofString "_law_rows", Str.ofString "_law_rule_so", Str.ofString "_law_there", Str.ofString "_law_taken_so", Str.ofString "_law_odd", Str.ofString "_law_line", Str.ofString "_law_k", Str.ofString "_law_beat_so", Str.ofString "_law_bars", Str.ofString "_law_j"] [Str.ofString "_law_rows", Str.ofString "_law_rule_so", Str.ofString "_law_there"] (defScope st_law_let) := ⟨rfl, rfl, rfl, by decide +kernel, rfl, by decide +kernel, by decide +kernel⟩
theorem bd_law_let {K : PySem.W.Frag} : ∀ f fd, Fun K (Str.ofString "_law_let") (Str.ofString "_law_let") st_law_let f fd → Binds K fd [Str.ofString "_law_rows", Str.ofString "_law_rule_so", Str.ofString "_law_there"] [] := fun f fd F => F.binds (ps := [Str.ofString "_law_rows", Str.ofString "_law_rule_so", Str.ofString "_law_there"]) fun _ _ _ _ _ _ us hl => match us, hl with | [_, _, _], _ => rfl
theorem ok_law_let {P : Program} {w : World} {K : PySem.W.Frag} {mg : Str → Option Value} {base : Heap} (T : BT mg) (Z : CT K mg) (R : Raw K mg (Str.ofString "_law_let") st_law_let)
    (G_law_is_amid : Df P w K mg base (Str.ofString "_law_is_amid") st_law_is_amid 1 [Str.ofString "_law_rows", Str.ofString "_law_k", Str.ofString "_law_j"] m_law_is_amid 3)
    (G_law_meet : Df P w K mg base (Str.ofString "_law_meet") st_law_meet 1 [Str.ofString "_law_rows", Str.ofString "_law_k", Str.ofString "_law_j"] m_law_meet 3) : Df P w K mg base (Str.ofString "_law_let") st_law_let 2 [Str.ofString "_law_rows", Str.ofString "_law_rule_so", Str.ofString "_law_there"] m_law_let 3 :=
  df_of (N := [Str.ofString "_law_rows", Str.ofString "_law_rule_so", Str.ofString "_law_there", Str.ofString "_law_taken_so", Str.ofString "_law_odd", Str.ofString "_law_line", Str.ofString "_law_k", Str.ofString "_law_beat_so", Str.ofString "_law_bars", Str.ofString "_law_j"]) (k := 1) R bd_law_let sc_law_let rfl fun f cdv A outer s H E hr => (ss_cons (s1_asg (vs := [3, 4]) (se_tup (sa_cons (sc_new (sc_lst sa_nil)) (sa_cons (sc_new sc_dict0) sa_nil))) (sg_tup rfl (sgs_cons (sg_name (by decide) sc_law_let.nd rfl (.inl rfl)) (sgs_cons (sg_name (by decide) sc_law_let.nd rfl (.inr rfl)) sgs_nil))))
  (ss_cons (s1_set sc_law_let.nd rfl (.inl rfl) (se_if (st_eq hr.units (se_var 1) se_str) (sc_frz (sc_sortD hr.units (by rfl) T.b_sorted (sc_frz (sc_comp rfl sc_law_let.nd (si_seq (se_var 2)) (blkOk_by (own := [(Str.ofString "_law_k", 6)]) (by kernel_rfl)) (fun _ _ _ _ _ => (sg_name (by decide) sc_law_let.nd rfl (.inl rfl))) (fun _ _ _ _ _ => sts_nil) (fun _ _ _ _ _ => (se_tup (sa_cons (se_item (se_item (se_var 0) (se_var 6)) se_int) (sa_cons (se_var 6) sa_nil)))))))) (sc_frz (sc_comp rfl sc_law_let.nd (si_seq (sc_frz (sc_sorted (by rfl) T.b_sorted (se_var 2)))) (blkOk_by (own := [(Str.ofString "_law_k", 6)]) (by kernel_rfl)) (fun _ _ _ _ _ => (sg_name (by decide) sc_law_let.nd rfl (.inl rfl))) (fun _ _ _ _ _ => sts_nil) (fun _ _ _ _ _ => (se_tup (sa_cons se_int (sa_cons (se_var 6) sa_nil))))))))
  (ss_cons (s1_for (vs := [7, 6]) (passes_of rfl) rfl (si_seq (se_var 5)) (sg_tup rfl (sgs_cons (sg_name (by decide) sc_law_let.nd rfl (.inl rfl)) (sgs_cons (sg_name (by decide) sc_law_let.nd rfl (.inl rfl)) sgs_nil))) (ss_cons (s1_set sc_law_let.nd rfl (.inl rfl) (sc_new (sc_lst sa_nil)))
  (ss_cons (s1_for (vs := [9]) (passes_of rfl) rfl (si_seq (se_var 3)) (sg_name (by decide) sc_law_let.nd rfl (.inl rfl)) (ss_cons (s1_if (st_sw (sw_and (st_eq hr.units (se_var 1) se_str) (sw_and1 (st_gt (se_item (se_item (se_var 0) (se_var 9)) se_int) (se_item (se_item (se_var 0) (se_var 6)) se_int))))) (ss_one (s1_expr (se_append (se_var 8) (se_var 9)))) ss_nil)
  (ss_one (s1_if (st_sw (sw_and (st_in (se_var 1) (se_tup (sa_cons se_str (sa_cons se_str sa_nil)))) (sw_and1 (st_tru (sd_callR (bx := false) G_law_is_amid (hr.mono (by decide)) (sa_cons (se_var 0) (sa_cons (se_var 9) (sa_cons (se_var 6) sa_nil)))))))) (ss_one (s1_set sc_law_let.nd rfl (.inl rfl) (se_add (se_var 8) (sc_frz (sc_rep (sc_frz (sc_lst (sa_cons (se_var 9) sa_nil))) (se_intf (by rfl) T.b_int (se_or (se_eq hr.units (se_var 1) se_str) (se_one (se_ne hr.units (sd_callR (bx := false) G_law_meet (hr.mono (by decide)) (sa_cons (se_var 0) (sa_cons (se_var 9) (sa_cons (se_var 6) sa_nil)))) (se_tup sa_nil)))))))))) ss_nil))))
  (ss_one (s1_if (st_eq hr.units (se_var 8) (sc_frz (sc_lst sa_nil))) (ss_one (s1_expr (se_append (se_var 3) (se_var 6)))) (ss_one (s1_dput hr.line (se_min rfl (by rfl) T.b_min (se_var 8)) (se_var 4) (se_var 6))))))))
  (ss_one (s1_ret (se_tup (sa_cons (se_tuple (by rfl) T.b_tuple (sc_frz (sc_sorted (by rfl) T.b_sorted (se_var 3)))) (sa_cons (sc_frz (sc_comp rfl sc_law_let.nd (si_seq (sc_frz (sc_dsorted rfl (by rfl) T.b_sorted (se_var 4)))) (blkOk_by (own := [(Str.ofString "_law_k", 6)]) (by kernel_rfl)) (fun _ _ _ _ _ => (sg_name (by decide) sc_law_let.nd rfl (.inl rfl))) (fun _ _ _ _ _ => sts_nil) (fun _ _ _ _ _ => (se_tup (sa_cons (se_var 6) (sa_cons (se_dget hr.line (se_var 4) (se_var 6)) sa_nil)))))) sa_nil))))))))
abbrev st_law_one_right : Stmt := PySem.Challenge.pw_saveclash_k04_seen_without_alone.main.body.getD 29 (.Pass ⟨0, 0, 0, 0⟩)
theorem sc_law_one_right : FnScope [Str.ofString "_law_rows", Str.ofString "_law_rule_so", Str.ofString "_law_every", Str.ofString "_law_soft", Str.ofString "_law_line", Str.ofString "_law_k", Str.ofString "_law_seen_so", Str.ofString "_law_j", Str.ofString "_law_told", Str.ofString "_law_its", Str.ofString "_law_due", Str.ofString "_law_near"] [Str.ofString "_law_rows", Str.ofString "_law_rule_so"] (defScope st_law_one_right) := ⟨rfl, rfl, rfl, by decide +kernel, rfl, by decide +kernel, by decide +kernel⟩
theorem bd_law_one_right {K : PySem.W.Frag} : ∀ f fd, Fun K (Str.ofString "_law_one_right") (Str.ofString "_law_one_right") st_law_one_right f fd → Binds K fd [Str.ofString "_law_rows", Str.ofString "_law_rule_so"] [] := fun f fd F => F.binds (ps := [Str.ofString "_law_rows", Str.ofString "_law_rule_so"]) fun _ _ _ _ _ _ us hl => match us, hl with | [_, _], _ => rfl
theorem ok_law_one_right {P : Program} {w : World} {K : PySem.W.Frag} {mg : Str → Option Value} {base : Heap} (T : BT mg) (Z : CT K mg) (R : Raw K mg (Str.ofString "_law_one_right") st_law_one_right)
    (G_seen_by : Df P w K mg base (Str.ofString "seen_by") st_seen_by 19 [Str.ofString "sessions", Str.ofString "rule", Str.ofString "number"] m_seen_by 3)
    (G_without : Df P w K mg base (Str.ofString "without") st_without 19 [Str.ofString "sessions", Str.ofString "rule", Str.ofString "number"] m_without 3)
    (G_alone : Df P w K mg base (Str.ofString "alone") st_alone 19 [Str.ofString "sessions", Str.ofString "rule"] m_alone 2)
    (G_law_same : ∀ n, Df P w K mg base (Str.ofString "_law_same") st_law_same n [Str.ofString "_law_found", Str.ofString "_law_due"] (m_law_same n) 2)
    (G_law_lists : ∀ n, Df P w K mg base (Str.ofString "_law_lists") st_law_lists n [Str.ofString "_law_matter"] (m_law_lists n) 1)
    (G_law_is_amid : Df P w K mg base (Str.ofString "_law_is_amid") st_law_is_amid 1 [Str.ofString "_law_rows", Str.ofString "_law_k", Str.ofString "_law_j"] m_law_is_amid 3)
    (G_law_let : Df P w K mg base (Str.ofString "_law_let") st_law_let 2 [Str.ofString "_law_rows", Str.ofString "_law_rule_so", Str.ofString "_law_there"] m_law_let 3) : Df P w K mg base (Str.ofString "_law_one_right") st_law_one_right 20 [Str.ofString "_law_rows", Str.ofString "_law_rule_so"] m_law_one_right 2 :=
  df_of (N := [Str.ofString "_law_rows", Str.ofString "_law_rule_so", Str.ofString "_law_every", Str.ofString "_law_soft", Str.ofString "_law_line", Str.ofString "_law_k", Str.ofString "_law_seen_so", Str.ofString "_law_j", Str.ofString "_law_told", Str.ofString "_law_its", Str.ofString "_law_due", Str.ofString "_law_near"]) (k := 19) R bd_law_one_right sc_law_one_right rfl fun f cdv A outer s H E hr => (ss_cons (s1_par rfl sc_law_one_right.nd rfl rfl (by decide) rfl rfl (sa_cons (sc_frz (sc_lrg1 rfl (by rfl) T.b_range (by rfl) T.b_list (se_len (by rfl) T.b_len (se_var 0)))) (sa_cons (sd_callR (bx := false) (G_law_lists 14) (hr.mono (by decide)) (sa_cons (se_var 0) sa_nil)) sa_nil)))
  (ss_cons (s1_set sc_law_one_right.nd rfl (.inr rfl) (se_item (sd_callR (bx := false) G_law_let (hr.mono (by decide)) (sa_cons (se_var 0) (sa_cons (se_var 1) (sa_cons (se_var 2) sa_nil)))) se_int))
  (ss_cons (s1_for (vs := [5]) (passes_of rfl) rfl (si_seq (se_var 2)) (sg_name (by decide) sc_law_one_right.nd rfl (.inr rfl)) (ss_cons (s1_set sc_law_one_right.nd rfl (.inl rfl) (se_tuple (by rfl) T.b_tuple (sc_frz (sc_comp rfl sc_law_one_right.nd (si_seq (se_var 4)) (blkOk_by (own := [(Str.ofString "_law_j", 7)]) (by kernel_rfl)) (fun _ _ _ _ _ => (sg_name (by decide) sc_law_one_right.nd rfl (.inl rfl))) (fun _ _ _ _ _ => (sts_one (st_le (se_item (se_item (se_var 0) (se_var 7)) se_int) (se_item (se_item (se_var 0) (se_var 5)) se_int)))) (fun _ _ _ _ _ => (se_var 7))))))
  (ss_cons (s1_set sc_law_one_right.nd rfl (.inl rfl) (sc_frz (sc_lst (sa_cons (sd_callR (bx := false) G_seen_by (hr.mono (by decide)) (sa_cons (se_var 0) (sa_cons (se_var 1) (sa_cons (se_var 5) sa_nil)))) (sa_cons (sd_callK0 (bx := false) (ks := [Str.ofString "number", Str.ofString "rule", Str.ofString "sessions"]) (ix := [2, 1, 0]) G_seen_by (hr.mono (by decide)) (fun _ _ F => ⟨fun s us ws h1 h2 => by obtain ⟨oc, od, kV, doc, pm, an, cdv, ct, osl, rfl, lk, hcd⟩ := F.ex; exact match us, ws, h1, h2 with | [], [_, _, _], _, _ => .of_eq rfl⟩) (sk_cons (se_var 5) (sk_cons (se_var 1) (sk_cons (se_var 3) sk_nil)))).2 sa_nil)))))
  (ss_cons (s1_if (st_not (st_tru (sd_callR (bx := false) (G_law_same 14) (hr.mono (by decide)) (sa_cons (se_var 8) (sa_cons (sc_frz (sc_lst (sa_cons (se_var 6) (sa_cons (se_var 6) sa_nil)))) sa_nil))))) (ss_one (s1_ret se_bl)) ss_nil)
  (ss_cons (s1_set sc_law_one_right.nd rfl (.inr rfl) (se_item (sd_callR (bx := false) G_law_let (hr.mono (by decide)) (sa_cons (se_var 0) (sa_cons (se_var 1) (sa_cons (sc_frz (sc_comp rfl sc_law_one_right.nd (si_seq (se_var 2)) (blkOk_by (own := [(Str.ofString "_law_j", 7)]) (by kernel_rfl)) (fun _ _ _ _ _ => (sg_name (by decide) sc_law_one_right.nd rfl (.inl rfl))) (fun _ _ _ _ _ => (sts_one (st_ne hr.units (se_var 7) (se_var 5)))) (fun _ _ _ _ _ => (se_var 7)))) sa_nil)))) se_int))
  (ss_cons (s1_set sc_law_one_right.nd rfl (.inl rfl) (se_tup (sa_cons (se_tuple (by rfl) T.b_tuple (sc_frz (sc_comp rfl sc_law_one_right.nd (si_seq (se_var 9)) (blkOk_by (own := [(Str.ofString "_law_j", 7)]) (by kernel_rfl)) (fun _ _ _ _ _ => (sg_name (by decide) sc_law_one_right.nd rfl (.inl rfl))) (fun _ _ _ _ _ => (sts_one (st_notIn (se_var 7) (se_var 4)))) (fun _ _ _ _ _ => (se_var 7))))) (sa_cons (se_tuple (by rfl) T.b_tuple (sc_frz (sc_comp rfl sc_law_one_right.nd (si_seq (se_var 4)) (blkOk_by (own := [(Str.ofString "_law_j", 7)]) (by kernel_rfl)) (fun _ _ _ _ _ => (sg_name (by decide) sc_law_one_right.nd rfl (.inl rfl))) (fun _ _ _ _ _ => (sts_one (st_sw (sw_and (st_notIn (se_var 7) (se_var 9)) (sw_and1 (st_ne hr.units (se_var 7) (se_var 5))))))) (fun _ _ _ _ _ => (se_var 7))))) sa_nil))))
  (ss_cons (s1_set sc_law_one_right.nd rfl (.inl rfl) (sc_frz (sc_lst (sa_cons (sd_callR (bx := false) G_without (hr.mono (by decide)) (sa_cons (se_var 0) (sa_cons (se_var 1) (sa_cons (se_var 5) sa_nil)))) (sa_cons (sd_callK0 (bx := false) (ks := [Str.ofString "number", Str.ofString "rule", Str.ofString "sessions"]) (ix := [2, 1, 0]) G_without (hr.mono (by decide)) (fun _ _ F => ⟨fun s us ws h1 h2 => by obtain ⟨oc, od, kV, doc, pm, an, cdv, ct, osl, rfl, lk, hcd⟩ := F.ex; exact match us, ws, h1, h2 with | [], [_, _, _], _, _ => .of_eq rfl⟩) (sk_cons (se_var 5) (sk_cons (se_var 1) (sk_cons (se_var 3) sk_nil)))).2 sa_nil)))))
  (ss_one (s1_if (st_not (st_tru (sd_callR (bx := false) (G_law_same 14) (hr.mono (by decide)) (sa_cons (se_var 8) (sa_cons (sc_frz (sc_lst (sa_cons (se_var 10) (sa_cons (se_var 10) sa_nil)))) sa_nil))))) (ss_one (s1_ret se_bl)) ss_nil)))))))))
  (ss_cons (s1_set sc_law_one_right.nd rfl (.inl rfl) (sc_frz (sc_lst sa_nil)))
  (ss_cons (s1_for (vs := [5]) (passes_of rfl) rfl (si_seq (se_var 4)) (sg_name (by decide) sc_law_one_right.nd rfl (.inr rfl)) (ss_cons (s1_comp rfl sc_law_one_right.nd rfl rfl (si_seq (se_var 4)) (blkOk_by (own := [(Str.ofString "_law_j", 7)]) (by kernel_rfl)) (fun _ _ _ _ _ => (sg_name (by decide) sc_law_one_right.nd rfl (.inl rfl))) (fun _ _ _ _ _ => (sts_one (st_sw (sw_or (st_tru (sd_callR (bx := false) G_law_is_amid (hr.mono (by decide)) (sa_cons (se_var 0) (sa_cons (se_var 7) (sa_cons (se_var 5) sa_nil))))) (sw_or1 (st_tru (sd_callR (bx := false) G_law_is_amid (hr.mono (by decide)) (sa_cons (se_var 0) (sa_cons (se_var 5) (sa_cons (se_var 7) sa_nil)))))))))) (fun _ _ _ _ _ => (se_var 7))).1
  (ss_one (s1_set sc_law_one_right.nd rfl (.inl rfl) (se_add (se_var 10) (sc_frz (sc_rep (sc_frz (sc_lst (sa_cons (se_var 5) sa_nil))) (se_intf (by rfl) T.b_int (se_eq hr.units (se_var 11) (sc_frz (sc_lst sa_nil)))))))))))
  (ss_cons (s1_set sc_law_one_right.nd rfl (.inl rfl) (sc_frz (sc_lst (sa_cons (sd_callR (bx := false) G_alone (hr.mono (by decide)) (sa_cons (se_var 0) (sa_cons (se_var 1) sa_nil))) (sa_cons (sd_callK0 (bx := false) (ks := [Str.ofString "rule", Str.ofString "sessions"]) (ix := [1, 0]) G_alone (hr.mono (by decide)) (fun _ _ F => ⟨fun s us ws h1 h2 => by obtain ⟨oc, od, kV, doc, pm, an, cdv, ct, osl, rfl, lk, hcd⟩ := F.ex; exact match us, ws, h1, h2 with | [], [_, _], _, _ => .of_eq rfl⟩) (sk_cons (se_var 1) (sk_cons (se_var 3) sk_nil))).2 sa_nil)))))
  (ss_one (s1_ret (se_and (sd_callR (bx := false) (G_law_same 14) (hr.mono (by decide)) (sa_cons (se_var 8) (sa_cons (sc_frz (sc_rep (sc_frz (sc_lst (sa_cons (se_tuple (by rfl) T.b_tuple (se_var 10)) sa_nil))) se_int)) sa_nil))) (se_one (se_eq hr.units (se_var 3) (sd_callR (bx := false) (G_law_lists 14) (hr.mono (by decide)) (sa_cons (se_var 0) sa_nil)))))))))))))
abbrev st_law_right : Stmt := PySem.Challenge.pw_saveclash_k04_seen_without_alone.main.body.getD 30 (.Pass ⟨0, 0, 0, 0⟩)
theorem sc_law_right : FnScope [Str.ofString "_law_box_here", Str.ofString "_law_turn", Str.ofString "_law_rows", Str.ofString "_law_own"] [Str.ofString "_law_box_here"] (defScope st_law_right) := ⟨rfl, rfl, rfl, by decide +kernel, rfl, by decide +kernel, by decide +kernel⟩
theorem bd_law_right {K : PySem.W.Frag} : ∀ f fd, Fun K (Str.ofString "_law_right") (Str.ofString "_law_right") st_law_right f fd → Binds K fd [Str.ofString "_law_box_here"] [] := fun f fd F => F.binds (ps := [Str.ofString "_law_box_here"]) fun _ _ _ _ _ _ us hl => match us, hl with | [_], _ => rfl
theorem ok_law_right {P : Program} {w : World} {K : PySem.W.Frag} {mg : Str → Option Value} {base : Heap} (T : BT mg) (Z : CT K mg) (R : Raw K mg (Str.ofString "_law_right") st_law_right)
    (G_law_take : Df P w K mg base (Str.ofString "_law_take") st_law_take 1 [Str.ofString "_law_box_here", Str.ofString "_law_below"] m_law_take 2)
    (G_law_sessions : Df P w K mg base (Str.ofString "_law_sessions") st_law_sessions 3 [Str.ofString "_law_box_here", Str.ofString "_law_size_all", Str.ofString "_law_pool_so"] m_law_sessions 3)
    (G_law_known_right : Df P w K mg base (Str.ofString "_law_known_right") st_law_known_right 20 [] m_law_known_right 0)
    (G_law_one_right : Df P w K mg base (Str.ofString "_law_one_right") st_law_one_right 20 [Str.ofString "_law_rows", Str.ofString "_law_rule_so"] m_law_one_right 2) : Df P w K mg base (Str.ofString "_law_right") st_law_right 21 [Str.ofString "_law_box_here"] m_law_right 1 :=
  df_of (N := [Str.ofString "_law_box_here", Str.ofString "_law_turn", Str.ofString "_law_rows", Str.ofString "_law_own"]) (k := 20) R bd_law_right sc_law_right rfl fun f cdv A outer s H E hr => (ss_cons (s1_if (st_not (st_tru (sd_callR0 (bx := false) G_law_known_right (hr.mono (by decide))))) (ss_one (s1_ret se_bl)) ss_nil)
  (ss_cons (s1_for (vs := [1]) (passes_of rfl) rfl (si_range1 (by rfl) T.b_range se_int) (sg_name (by decide) sc_law_right.nd rfl (.inl rfl)) (ss_cons (s1_set sc_law_right.nd rfl (.inr rfl) (sd_callR (bx := true) G_law_sessions (hr.mono (by decide)) (sa_cons (se_var 0) (sa_cons (sd_callR (bx := true) G_law_take (hr.mono (by decide)) (sa_cons (se_var 0) (sa_cons se_int sa_nil))) (sa_cons (se_tup (sa_cons se_str (sa_cons se_str (sa_cons se_str sa_nil)))) sa_nil)))))
  (ss_one (s1_if (st_not (st_tru (se_all rfl (by rfl) T.b_all (sc_frz (sc_comp rfl sc_law_right.nd (si_seq (se_tup (sa_cons se_str (sa_cons se_str (sa_cons se_str (sa_cons se_str (sa_cons se_str sa_nil))))))) (blkOk_by (own := [(Str.ofString "_law_own", 3)]) (by kernel_rfl)) (fun _ _ _ _ _ => (sg_name (by decide) sc_law_right.nd rfl (.inl rfl))) (fun _ _ _ _ _ => sts_nil) (fun _ _ _ _ _ => (sd_callR (bx := false) G_law_one_right (hr.mono (by decide)) (sa_cons (se_var 2) (sa_cons (se_var 3) sa_nil))))))))) (ss_one (s1_ret se_bl)) ss_nil))))
  (ss_one (s1_ret se_bl))))
abbrev st_law : Stmt := PySem.Challenge.pw_saveclash_k04_seen_without_alone.main.body.getD 31 (.Pass ⟨0, 0, 0, 0⟩)
theorem sc_law : FnScope [Str.ofString "_law_script", Str.ofString "_law_cells_here", Str.ofString "_law_k"] [Str.ofString "_law_script"] (defScope st_law) := ⟨rfl, rfl, rfl, by decide +kernel, rfl, by decide +kernel, by decide +kernel⟩
theorem bd_law {K : PySem.W.Frag} : ∀ f fd, Fun K (Str.ofString "law") (Str.ofString "law") st_law f fd → Binds K fd [Str.ofString "_law_script"] [] := fun f fd F => F.binds (ps := [Str.ofString "_law_script"]) fun _ _ _ _ _ _ us hl => match us, hl with | [_], _ => rfl
theorem ok_law {P : Program} {w : World} {K : PySem.W.Frag} {mg : Str → Option Value} {base : Heap} (T : BT mg) (Z : CT K mg) (R : Raw K mg (Str.ofString "law") st_law)
    (G_law_box : Df P w K mg base (Str.ofString "_law_box") st_law_box 1 [Str.ofString "_law_script", Str.ofString "_law_k"] m_law_box 2)
    (G_law_cells : Df P w K mg base (Str.ofString "_law_cells") st_law_cells 1 [Str.ofString "_law_script", Str.ofString "_law_most"] m_law_cells 2)
    (G_law_right : Df P w K mg base (Str.ofString "_law_right") st_law_right 21 [Str.ofString "_law_box_here"] m_law_right 1) : Df P w K mg base (Str.ofString "law") st_law 22 [Str.ofString "_law_script"] m_law 1 :=
  df_of (N := [Str.ofString "_law_script", Str.ofString "_law_cells_here", Str.ofString "_law_k"]) (k := 21) R bd_law sc_law rfl fun f cdv A outer s H E hr => (ss_cons (s1_set sc_law.nd rfl (.inr rfl) (sd_call G_law_cells (hr.mono (by decide)) (sa_cons (se_var 0) (sa_cons se_int sa_nil))))
  (ss_one (s1_ret (se_all rfl (by rfl) T.b_all (sc_frz (sc_comp rfl sc_law.nd (si_range1 (by rfl) T.b_range (se_len (by rfl) T.b_len (se_var 1))) (blkOk_by (own := [(Str.ofString "_law_k", 2)]) (by kernel_rfl)) (fun _ _ _ _ _ => (sg_name (by decide) sc_law.nd rfl (.inl rfl))) (fun _ _ _ _ _ => sts_nil) (fun _ _ _ _ _ => (sd_callR (bx := true) G_law_right (hr.mono (by decide)) (sa_cons (sd_call G_law_box (hr.mono (by decide)) (sa_cons (se_var 1) (sa_cons (se_var 2) sa_nil))) sa_nil)))))))))
end MM
set_option maxRecDepth 100000
set_option maxHeartbeats 4000000
namespace MM
open PySem PySem.Spec PyProof.Rows L2
section
variable [TB : Tabl]
theorem all_ok {l : PySem.W.OpenLaw} {w : World} {K : PySem.W.Frag} {mg : Str → Option Value} {base : Heap} {ca_Course_order Pa_Course_order : Addr} (T : BT mg) (Z : CT K mg)
    (R_law_box : Raw K mg (Str.ofString "_law_box") st_law_box)
    (R_law_cells : Raw K mg (Str.ofString "_law_cells") st_law_cells)
    (R_law_take : Raw K mg (Str.ofString "_law_take") st_law_take)
    (R_law_of : Raw K mg (Str.ofString "_law_of") st_law_of)
    (R_law_sessions : Raw K mg (Str.ofString "_law_sessions") st_law_sessions)
    (R_tupled : Raw K mg (Str.ofString "tupled") st_tupled)
    (R_Sessions_init : RawM K mg (Str.ofString "Sessions") (Str.ofString "__init__") (Str.ofString "Sessions.__init__") st_Sessions_init)
    (R_Sessions_check : RawM K mg (Str.ofString "Sessions") (Str.ofString "check") (Str.ofString "Sessions.check") st_Sessions_check)
    (R_Sessions_opening : RawM K mg (Str.ofString "Sessions") (Str.ofString "opening") (Str.ofString "Sessions.opening") st_Sessions_opening)
    (R_Sessions_saving : RawM K mg (Str.ofString "Sessions") (Str.ofString "saving") (Str.ofString "Sessions.saving") st_Sessions_saving)
    (R_Course_let_by : RawM K mg (Str.ofString "Course") (Str.ofString "let_by") (Str.ofString "Course.let_by") st_Course_let_by)
    (R_Sessions_numbers : RawM K mg (Str.ofString "Sessions") (Str.ofString "numbers") (Str.ofString "Sessions.numbers") st_Sessions_numbers)
    (R_Course_order : RawML K mg (Str.ofString "Course") (Str.ofString "order") (Str.ofString "Course.order") st_Course_order ca_Course_order) (L_Course_order : LamX.TabB base mg ca_Course_order Pa_Course_order) (T_Course_order : (Pa_Course_order, Str.ofString "Course.order" ++ ".<locals>." ++ "<lambda>") ∈ TB.T)
    (R_Sessions_is_between : RawM K mg (Str.ofString "Sessions") (Str.ofString "is_between") (Str.ofString "Sessions.is_between") st_Sessions_is_between)
    (R_Sessions_names : RawM K mg (Str.ofString "Sessions") (Str.ofString "names") (Str.ofString "Sessions.names") st_Sessions_names)
    (R_Sessions_common : RawM K mg (Str.ofString "Sessions") (Str.ofString "common") (Str.ofString "Sessions.common") st_Sessions_common)
    (R_Course_stands_against : RawM K mg (Str.ofString "Course") (Str.ofString "stands_against") (Str.ofString "Course.stands_against") st_Course_stands_against)
    (R_Course_come : RawM K mg (Str.ofString "Course") (Str.ofString "come") (Str.ofString "Course.come") st_Course_come)
    (R_Course_init : RawM K mg (Str.ofString "Course") (Str.ofString "__init__") (Str.ofString "Course.__init__") st_Course_init)
    (R_course_of : Raw K mg (Str.ofString "course_of") st_course_of)
    (R_accepted : Raw K mg (Str.ofString "accepted") st_accepted)
    (R_seen_by : Raw K mg (Str.ofString "seen_by") st_seen_by)
    (R_without : Raw K mg (Str.ofString "without") st_without)
    (R_alone : Raw K mg (Str.ofString "alone") st_alone)
    (R_law_same : Raw K mg (Str.ofString "_law_same") st_law_same)
    (R_law_known_right : Raw K mg (Str.ofString "_law_known_right") st_law_known_right)
    (R_law_lists : Raw K mg (Str.ofString "_law_lists") st_law_lists)
    (R_law_is_amid : Raw K mg (Str.ofString "_law_is_amid") st_law_is_amid)
    (R_law_meet : Raw K mg (Str.ofString "_law_meet") st_law_meet)
    (R_law_let : Raw K mg (Str.ofString "_law_let") st_law_let)
    (R_law_one_right : Raw K mg (Str.ofString "_law_one_right") st_law_one_right)
    (R_law_right : Raw K mg (Str.ofString "_law_right") st_law_right)
    (R_law : Raw K mg (Str.ofString "law") st_law) : Df l.prog w K mg base (Str.ofString "law") st_law 22 [Str.ofString "_law_script"] m_law 1 := by
  have G_law_box := ok_law_box (P := l.prog) (w := w) (base := base) T Z R_law_box
  have G_law_cells := ok_law_cells (P := l.prog) (w := w) (base := base) T Z R_law_cells
  have G_law_take := ok_law_take (P := l.prog) (w := w) (base := base) T Z R_law_take
  have G_law_of := ok_law_of (P := l.prog) (w := w) (base := base) T Z R_law_of G_law_take
  have G_law_sessions := ok_law_sessions (P := l.prog) (w := w) (base := base) T Z R_law_sessions G_law_take G_law_of
  have G_tupled := ok_tupled (P := l.prog) (w := w) (base := base) T Z R_tupled
  have G_Sessions_init := ok_Sessions_init (P := l.prog) (w := w) (base := base) T Z R_Sessions_init G_tupled
  have G_Sessions_check := ok_Sessions_check (P := l.prog) (w := w) (base := base) T Z R_Sessions_check
  have G_Sessions_opening := ok_Sessions_opening (P := l.prog) (w := w) (base := base) T Z R_Sessions_opening
  have G_Sessions_saving := ok_Sessions_saving (P := l.prog) (w := w) (base := base) T Z R_Sessions_saving
  have G_Course_let_by := ok_Course_let_by (P := l.prog) (w := w) (base := base) T Z R_Course_let_by
  have G_Sessions_numbers := ok_Sessions_numbers (P := l.prog) (w := w) (base := base) T Z R_Sessions_numbers
  have G_Course_order := ok_Course_order (P := l.prog) (w := w) (base := base) T Z R_Course_order L_Course_order T_Course_order G_Sessions_opening
  have G_Sessions_is_between := ok_Sessions_is_between (P := l.prog) (w := w) (base := base) T Z R_Sessions_is_between G_Sessions_opening G_Sessions_saving
  have G_Sessions_names := ok_Sessions_names (P := l.prog) (w := w) (base := base) T Z R_Sessions_names
  have G_Sessions_common := ok_Sessions_common (P := l.prog) (w := w) (base := base) T Z R_Sessions_common G_Sessions_names
  have G_Course_stands_against := ok_Course_stands_against (P := l.prog) (w := w) (base := base) T Z R_Course_stands_against G_Sessions_opening G_Sessions_saving G_Sessions_is_between G_Sessions_common
  have G_Course_come := ok_Course_come (P := l.prog) (w := w) (base := base) T Z R_Course_come G_Course_stands_against
  have G_Course_init := ok_Course_init (P := l.prog) (w := w) (base := base) T Z R_Course_init G_Course_order G_Course_come
  have G_course_of := ok_course_of (P := l.prog) (w := w) (base := base) T Z R_course_of G_Sessions_init G_Sessions_numbers G_Course_init
  have G_accepted := ok_accepted (P := l.prog) (w := w) (base := base) T Z R_accepted G_Course_let_by G_course_of
  have G_seen_by := ok_seen_by (P := l.prog) (w := w) (base := base) T Z R_seen_by G_Sessions_init G_Sessions_check G_Sessions_opening G_Sessions_saving G_accepted
  have G_without := ok_without (P := l.prog) (w := w) (base := base) T Z R_without G_Sessions_init G_Sessions_check G_Course_let_by G_Sessions_numbers G_Course_init G_accepted
  have G_alone := ok_alone (P := l.prog) (w := w) (base := base) T Z R_alone G_Sessions_init G_Sessions_is_between G_accepted
  have G_law_same := ok_law_same (P := l.prog) (w := w) (base := base) T Z R_law_same
  have G_law_known_right := ok_law_known_right (P := l.prog) (w := w) (base := base) T Z R_law_known_right G_seen_by G_without G_alone G_law_same
  have G_law_lists := ok_law_lists (P := l.prog) (w := w) (base := base) T Z R_law_lists
  have G_law_is_amid := ok_law_is_amid (P := l.prog) (w := w) (base := base) T Z R_law_is_amid
  have G_law_meet := ok_law_meet (P := l.prog) (w := w) (base := base) T Z R_law_meet
  have G_law_let := ok_law_let (P := l.prog) (w := w) (base := base) T Z R_law_let G_law_is_amid G_law_meet
  have G_law_one_right := ok_law_one_right (P := l.prog) (w := w) (base := base) T Z R_law_one_right G_seen_by G_without G_alone G_law_same G_law_lists G_law_is_amid G_law_let
  have G_law_right := ok_law_right (P := l.prog) (w := w) (base := base) T Z R_law_right G_law_take G_law_sessions G_law_known_right G_law_one_right
  have G_law := ok_law (P := l.prog) (w := w) (base := base) T Z R_law G_law_box G_law_cells G_law_right
  exact G_law
end
theorem fin_ok {l : PySem.W.OpenLaw} {w : World} {K : PySem.W.Frag} {mg : Str → Option Value} {h : Heap} {fa : Addr} (X : K.In h) (G : h.Ns mainGlobals mg) (hfa : mg (Str.ofString "law") = some (.ref fa))
    {C_Course : Addr} {p_Course_0 : Addr} {p_Course_1 : Addr} {p_Course_2 : Addr} {p_Course_3 : Addr} (ka_Course : PySem.W.nsIn K mainGlobals (Str.ofString "Course") = some (some (.ref C_Course))) (kb_Course : PySem.W.plainGet K C_Course Str.empty = true) (kc_Course : PySem.W.isClsIn K C_Course = true) (kd_Course : PySem.W.plainOver K C_Course = true) (ke_Course : PySem.W.findIn K (.ref C_Course) (Str.ofString "__setattr__") = some (some (.builtin "object.__setattr__"))) (kf_Course : PySem.W.makesIn K C_Course = true) (kg_Course : PySem.W.keepIn K (.ref C_Course) = true)
    (sa_Course_0 : PySem.W.findIn K (.ref C_Course) (Str.ofString "own_reasons") = some (some (.ref p_Course_0))) (sb_Course_0 : PySem.W.specialIn K (.ref p_Course_0) (Str.ofString "__get__") = some (some (.builtin "member_descriptor.__get__"))) (sc_Course_0 : PySem.W.takesIn K (.ref p_Course_0) = some true) (sd_Course_0 : PySem.W.typeIn K (.ref p_Course_0) = some (.type "member_descriptor")) (se_Course_0 : PySem.W.slotIn K p_Course_0 C_Course = some 0)
    (sa_Course_1 : PySem.W.findIn K (.ref C_Course) (Str.ofString "own_rule") = some (some (.ref p_Course_1))) (sb_Course_1 : PySem.W.specialIn K (.ref p_Course_1) (Str.ofString "__get__") = some (some (.builtin "member_descriptor.__get__"))) (sc_Course_1 : PySem.W.takesIn K (.ref p_Course_1) = some true) (sd_Course_1 : PySem.W.typeIn K (.ref p_Course_1) = some (.type "member_descriptor")) (se_Course_1 : PySem.W.slotIn K p_Course_1 C_Course = some 1)
    (sa_Course_2 : PySem.W.findIn K (.ref C_Course) (Str.ofString "own_sessions") = some (some (.ref p_Course_2))) (sb_Course_2 : PySem.W.specialIn K (.ref p_Course_2) (Str.ofString "__get__") = some (some (.builtin "member_descriptor.__get__"))) (sc_Course_2 : PySem.W.takesIn K (.ref p_Course_2) = some true) (sd_Course_2 : PySem.W.typeIn K (.ref p_Course_2) = some (.type "member_descriptor")) (se_Course_2 : PySem.W.slotIn K p_Course_2 C_Course = some 2)
    (sa_Course_3 : PySem.W.findIn K (.ref C_Course) (Str.ofString "own_taken") = some (some (.ref p_Course_3))) (sb_Course_3 : PySem.W.specialIn K (.ref p_Course_3) (Str.ofString "__get__") = some (some (.builtin "member_descriptor.__get__"))) (sc_Course_3 : PySem.W.takesIn K (.ref p_Course_3) = some true) (sd_Course_3 : PySem.W.typeIn K (.ref p_Course_3) = some (.type "member_descriptor")) (se_Course_3 : PySem.W.slotIn K p_Course_3 C_Course = some 3)
    {C_Sessions : Addr} {p_Sessions_0 : Addr} (ka_Sessions : PySem.W.nsIn K mainGlobals (Str.ofString "Sessions") = some (some (.ref C_Sessions))) (kb_Sessions : PySem.W.plainGet K C_Sessions Str.empty = true) (kc_Sessions : PySem.W.isClsIn K C_Sessions = true) (kd_Sessions : PySem.W.plainOver K C_Sessions = true) (ke_Sessions : PySem.W.findIn K (.ref C_Sessions) (Str.ofString "__setattr__") = some (some (.builtin "object.__setattr__"))) (kf_Sessions : PySem.W.makesIn K C_Sessions = true) (kg_Sessions : PySem.W.keepIn K (.ref C_Sessions) = true)
    (sa_Sessions_0 : PySem.W.findIn K (.ref C_Sessions) (Str.ofString "own_rows") = some (some (.ref p_Sessions_0))) (sb_Sessions_0 : PySem.W.specialIn K (.ref p_Sessions_0) (Str.ofString "__get__") = some (some (.builtin "member_descriptor.__get__"))) (sc_Sessions_0 : PySem.W.takesIn K (.ref p_Sessions_0) = some true) (sd_Sessions_0 : PySem.W.typeIn K (.ref p_Sessions_0) = some (.type "member_descriptor")) (se_Sessions_0 : PySem.W.slotIn K p_Sessions_0 C_Sessions = some 0)
    {f_law_box : Addr} {od_law_box an_law_box : Option Addr} {sl_law_box : Array (Option Value)} {oc_law_box kV_law_box dc_law_box pm_law_box ct_law_box : Value} {cd_law_box : Value} (a_law_box : PySem.W.nsIn K mainGlobals (Str.ofString "_law_box") = some (some (.ref f_law_box))) (l_law_box : K.lookup f_law_box = some ⟨oc_law_box, od_law_box, .func (PySem.W.fnOf (Str.ofString "_law_box") (Str.ofString "_law_box") (defArgs st_law_box) (defBody st_law_box) (defScope st_law_box) .none kV_law_box dc_law_box pm_law_box an_law_box cd_law_box ct_law_box), sl_law_box⟩) (c_law_box : PySem.W.codeIn K cd_law_box (Str.ofString "_law_box") = true) (k_law_box : PySem.W.keepIn K (.ref f_law_box) = true)
    {f_law_cells : Addr} {od_law_cells an_law_cells : Option Addr} {sl_law_cells : Array (Option Value)} {oc_law_cells kV_law_cells dc_law_cells pm_law_cells ct_law_cells : Value} {cd_law_cells : Value} (a_law_cells : PySem.W.nsIn K mainGlobals (Str.ofString "_law_cells") = some (some (.ref f_law_cells))) (l_law_cells : K.lookup f_law_cells = some ⟨oc_law_cells, od_law_cells, .func (PySem.W.fnOf (Str.ofString "_law_cells") (Str.ofString "_law_cells") (defArgs st_law_cells) (defBody st_law_cells) (defScope st_law_cells) .none kV_law_cells dc_law_cells pm_law_cells an_law_cells cd_law_cells ct_law_cells), sl_law_cells⟩) (c_law_cells : PySem.W.codeIn K cd_law_cells (Str.ofString "_law_cells") = true) (k_law_cells : PySem.W.keepIn K (.ref f_law_cells) = true)
    {f_law_take : Addr} {od_law_take an_law_take : Option Addr} {sl_law_take : Array (Option Value)} {oc_law_take kV_law_take dc_law_take pm_law_take ct_law_take : Value} {cd_law_take : Value} (a_law_take : PySem.W.nsIn K mainGlobals (Str.ofString "_law_take") = some (some (.ref f_law_take))) (l_law_take : K.lookup f_law_take = some ⟨oc_law_take, od_law_take, .func (PySem.W.fnOf (Str.ofString "_law_take") (Str.ofString "_law_take") (defArgs st_law_take) (defBody st_law_take) (defScope st_law_take) .none kV_law_take dc_law_take pm_law_take an_law_take cd_law_take ct_law_take), sl_law_take⟩) (c_law_take : PySem.W.codeIn K cd_law_take (Str.ofString "_law_take") = true) (k_law_take : PySem.W.keepIn K (.ref f_law_take) = true)
    {f_law_of : Addr} {od_law_of an_law_of : Option Addr} {sl_law_of : Array (Option Value)} {oc_law_of kV_law_of dc_law_of pm_law_of ct_law_of : Value} {cd_law_of : Value} (a_law_of : PySem.W.nsIn K mainGlobals (Str.ofString "_law_of") = some (some (.ref f_law_of))) (l_law_of : K.lookup f_law_of = some ⟨oc_law_of, od_law_of, .func (PySem.W.fnOf (Str.ofString "_law_of") (Str.ofString "_law_of") (defArgs st_law_of) (defBody st_law_of) (defScope st_law_of) .none kV_law_of dc_law_of pm_law_of an_law_of cd_law_of ct_law_of), sl_law_of⟩) (c_law_of : PySem.W.codeIn K cd_law_of (Str.ofString "_law_of") = true) (k_law_of : PySem.W.keepIn K (.ref f_law_of) = true)
    {f_law_sessions : Addr} {od_law_sessions an_law_sessions : Option Addr} {sl_law_sessions : Array (Option Value)} {oc_law_sessions kV_law_sessions dc_law_sessions pm_law_sessions ct_law_sessions : Value} {cd_law_sessions : Value} (a_law_sessions : PySem.W.nsIn K mainGlobals (Str.ofString "_law_sessions") = some (some (.ref f_law_sessions))) (l_law_sessions : K.lookup f_law_sessions = some ⟨oc_law_sessions, od_law_sessions, .func (PySem.W.fnOf (Str.ofString "_law_sessions") (Str.ofString "_law_sessions") (defArgs st_law_sessions) (defBody st_law_sessions) (defScope st_law_sessions) .none kV_law_sessions dc_law_sessions pm_law_sessions an_law_sessions cd_law_sessions ct_law_sessions), sl_law_sessions⟩) (c_law_sessions : PySem.W.codeIn K cd_law_sessions (Str.ofString "_law_sessions") = true) (k_law_sessions : PySem.W.keepIn K (.ref f_law_sessions) = true)
    {f_tupled : Addr} {od_tupled an_tupled : Option Addr} {sl_tupled : Array (Option Value)} {oc_tupled kV_tupled dc_tupled pm_tupled ct_tupled : Value} {cd_tupled : Value} (a_tupled : PySem.W.nsIn K mainGlobals (Str.ofString "tupled") = some (some (.ref f_tupled))) (l_tupled : K.lookup f_tupled = some ⟨oc_tupled, od_tupled, .func (PySem.W.fnOf (Str.ofString "tupled") (Str.ofString "tupled") (defArgs st_tupled) (defBody st_tupled) (defScope st_tupled) .none kV_tupled dc_tupled pm_tupled an_tupled cd_tupled ct_tupled), sl_tupled⟩) (c_tupled : PySem.W.codeIn K cd_tupled (Str.ofString "tupled") = true) (k_tupled : PySem.W.keepIn K (.ref f_tupled) = true)
    {f_Sessions_init : Addr} {od_Sessions_init an_Sessions_init : Option Addr} {sl_Sessions_init : Array (Option Value)} {oc_Sessions_init kV_Sessions_init dc_Sessions_init pm_Sessions_init ct_Sessions_init : Value} {cd_Sessions_init : Value} (a_Sessions_init : PySem.W.findIn K (.ref C_Sessions) (Str.ofString "__init__") = some (some (.ref f_Sessions_init))) (i_Sessions_init : PySem.W.isFn K (.ref f_Sessions_init) = true) (l_Sessions_init : K.lookup f_Sessions_init = some ⟨oc_Sessions_init, od_Sessions_init, .func (PySem.W.fnOf (Str.ofString "__init__") (Str.ofString "Sessions.__init__") (defArgs st_Sessions_init) (defBody st_Sessions_init) (defScope st_Sessions_init) .none kV_Sessions_init dc_Sessions_init pm_Sessions_init an_Sessions_init cd_Sessions_init ct_Sessions_init), sl_Sessions_init⟩) (c_Sessions_init : PySem.W.codeIn K cd_Sessions_init (Str.ofString "Sessions.__init__") = true) (k_Sessions_init : PySem.W.keepIn K (.ref f_Sessions_init) = true)
    {f_Sessions_check : Addr} {od_Sessions_check an_Sessions_check : Option Addr} {sl_Sessions_check : Array (Option Value)} {oc_Sessions_check kV_Sessions_check dc_Sessions_check pm_Sessions_check ct_Sessions_check : Value} {cd_Sessions_check : Value} (a_Sessions_check : PySem.W.findIn K (.ref C_Sessions) (Str.ofString "check") = some (some (.ref f_Sessions_check))) (i_Sessions_check : PySem.W.isFn K (.ref f_Sessions_check) = true) (l_Sessions_check : K.lookup f_Sessions_check = some ⟨oc_Sessions_check, od_Sessions_check, .func (PySem.W.fnOf (Str.ofString "check") (Str.ofString "Sessions.check") (defArgs st_Sessions_check) (defBody st_Sessions_check) (defScope st_Sessions_check) .none kV_Sessions_check dc_Sessions_check pm_Sessions_check an_Sessions_check cd_Sessions_check ct_Sessions_check), sl_Sessions_check⟩) (c_Sessions_check : PySem.W.codeIn K cd_Sessions_check (Str.ofString "Sessions.check") = true) (k_Sessions_check : PySem.W.keepIn K (.ref f_Sessions_check) = true)
    {f_Sessions_opening : Addr} {od_Sessions_opening an_Sessions_opening : Option Addr} {sl_Sessions_opening : Array (Option Value)} {oc_Sessions_opening kV_Sessions_opening dc_Sessions_opening pm_Sessions_opening ct_Sessions_opening : Value} {cd_Sessions_opening : Value} (a_Sessions_opening : PySem.W.findIn K (.ref C_Sessions) (Str.ofString "opening") = some (some (.ref f_Sessions_opening))) (i_Sessions_opening : PySem.W.isFn K (.ref f_Sessions_opening) = true) (l_Sessions_opening : K.lookup f_Sessions_opening = some ⟨oc_Sessions_opening, od_Sessions_opening, .func (PySem.W.fnOf (Str.ofString "opening") (Str.ofString "Sessions.opening") (defArgs st_Sessions_opening) (defBody st_Sessions_opening) (defScope st_Sessions_opening) .none kV_Sessions_opening dc_Sessions_opening pm_Sessions_opening an_Sessions_opening cd_Sessions_opening ct_Sessions_opening), sl_Sessions_opening⟩) (c_Sessions_opening : PySem.W.codeIn K cd_Sessions_opening (Str.ofString "Sessions.opening") = true) (k_Sessions_opening : PySem.W.keepIn K (.ref f_Sessions_opening) = true)
    {f_Sessions_saving : Addr} {od_Sessions_saving an_Sessions_saving : Option Addr} {sl_Sessions_saving : Array (Option Value)} {oc_Sessions_saving kV_Sessions_saving dc_Sessions_saving pm_Sessions_saving ct_Sessions_saving : Value} {cd_Sessions_saving : Value} (a_Sessions_saving : PySem.W.findIn K (.ref C_Sessions) (Str.ofString "saving") = some (some (.ref f_Sessions_saving))) (i_Sessions_saving : PySem.W.isFn K (.ref f_Sessions_saving) = true) (l_Sessions_saving : K.lookup f_Sessions_saving = some ⟨oc_Sessions_saving, od_Sessions_saving, .func (PySem.W.fnOf (Str.ofString "saving") (Str.ofString "Sessions.saving") (defArgs st_Sessions_saving) (defBody st_Sessions_saving) (defScope st_Sessions_saving) .none kV_Sessions_saving dc_Sessions_saving pm_Sessions_saving an_Sessions_saving cd_Sessions_saving ct_Sessions_saving), sl_Sessions_saving⟩) (c_Sessions_saving : PySem.W.codeIn K cd_Sessions_saving (Str.ofString "Sessions.saving") = true) (k_Sessions_saving : PySem.W.keepIn K (.ref f_Sessions_saving) = true)
    {f_Course_let_by : Addr} {od_Course_let_by an_Course_let_by : Option Addr} {sl_Course_let_by : Array (Option Value)} {oc_Course_let_by kV_Course_let_by dc_Course_let_by pm_Course_let_by ct_Course_let_by : Value} {cd_Course_let_by : Value} (a_Course_let_by : PySem.W.findIn K (.ref C_Course) (Str.ofString "let_by") = some (some (.ref f_Course_let_by))) (i_Course_let_by : PySem.W.isFn K (.ref f_Course_let_by) = true) (l_Course_let_by : K.lookup f_Course_let_by = some ⟨oc_Course_let_by, od_Course_let_by, .func (PySem.W.fnOf (Str.ofString "let_by") (Str.ofString "Course.let_by") (defArgs st_Course_let_by) (defBody st_Course_let_by) (defScope st_Course_let_by) .none kV_Course_let_by dc_Course_let_by pm_Course_let_by an_Course_let_by cd_Course_let_by ct_Course_let_by), sl_Course_let_by⟩) (c_Course_let_by : PySem.W.codeIn K cd_Course_let_by (Str.ofString "Course.let_by") = true) (k_Course_let_by : PySem.W.keepIn K (.ref f_Course_let_by) = true)
    {f_Sessions_numbers : Addr} {od_Sessions_numbers an_Sessions_numbers : Option Addr} {sl_Sessions_numbers : Array (Option Value)} {oc_Sessions_numbers kV_Sessions_numbers dc_Sessions_numbers pm_Sessions_numbers ct_Sessions_numbers : Value} {cd_Sessions_numbers : Value} (a_Sessions_numbers : PySem.W.findIn K (.ref C_Sessions) (Str.ofString "numbers") = some (some (.ref f_Sessions_numbers))) (i_Sessions_numbers : PySem.W.isFn K (.ref f_Sessions_numbers) = true) (l_Sessions_numbers : K.lookup f_Sessions_numbers = some ⟨oc_Sessions_numbers, od_Sessions_numbers, .func (PySem.W.fnOf (Str.ofString "numbers") (Str.ofString "Sessions.numbers") (defArgs st_Sessions_numbers) (defBody st_Sessions_numbers) (defScope st_Sessions_numbers) .none kV_Sessions_numbers dc_Sessions_numbers pm_Sessions_numbers an_Sessions_numbers cd_Sessions_numbers ct_Sessions_numbers), sl_Sessions_numbers⟩) (c_Sessions_numbers : PySem.W.codeIn K cd_Sessions_numbers (Str.ofString "Sessions.numbers") = true) (k_Sessions_numbers : PySem.W.keepIn K (.ref f_Sessions_numbers) = true)
    {f_Course_order : Addr} {od_Course_order an_Course_order : Option Addr} {sl_Course_order : Array (Option Value)} {oc_Course_order kV_Course_order dc_Course_order pm_Course_order ct_Course_order : Value} {ca_Course_order Pa_Course_order : Addr} {xa_Course_order : Value} {xb_Course_order : Option Addr} {xc_Course_order : Array Value} {xd_Course_order : Array (Option Value)} (a_Course_order : PySem.W.findIn K (.ref C_Course) (Str.ofString "order") = some (some (.ref f_Course_order))) (i_Course_order : PySem.W.isFn K (.ref f_Course_order) = true) (l_Course_order : K.lookup f_Course_order = some ⟨oc_Course_order, od_Course_order, .func (PySem.W.fnOf (Str.ofString "order") (Str.ofString "Course.order") (defArgs st_Course_order) (defBody st_Course_order) (defScope st_Course_order) .none kV_Course_order dc_Course_order pm_Course_order an_Course_order (.ref ca_Course_order) ct_Course_order), sl_Course_order⟩) (c_Course_order : PySem.W.codeIn K (.ref ca_Course_order) (Str.ofString "Course.order") = true) (k_Course_order : PySem.W.keepIn K (.ref f_Course_order) = true) (la_Course_order : K.lookup ca_Course_order = some ⟨xa_Course_order, xb_Course_order, .fields xc_Course_order, xd_Course_order⟩) (lb_Course_order : tabOf xc_Course_order = some Pa_Course_order) (lc_Course_order : PySem.W.codeHdIn K ca_Course_order Pa_Course_order = true) (ld_Course_order : K.lookup Pa_Course_order = none) (le_Course_order : h.get? Pa_Course_order = some { cls := .none, data := .fields #[] })
    {f_Sessions_is_between : Addr} {od_Sessions_is_between an_Sessions_is_between : Option Addr} {sl_Sessions_is_between : Array (Option Value)} {oc_Sessions_is_between kV_Sessions_is_between dc_Sessions_is_between pm_Sessions_is_between ct_Sessions_is_between : Value} {cd_Sessions_is_between : Value} (a_Sessions_is_between : PySem.W.findIn K (.ref C_Sessions) (Str.ofString "is_between") = some (some (.ref f_Sessions_is_between))) (i_Sessions_is_between : PySem.W.isFn K (.ref f_Sessions_is_between) = true) (l_Sessions_is_between : K.lookup f_Sessions_is_between = some ⟨oc_Sessions_is_between, od_Sessions_is_between, .func (PySem.W.fnOf (Str.ofString "is_between") (Str.ofString "Sessions.is_between") (defArgs st_Sessions_is_between) (defBody st_Sessions_is_between) (defScope st_Sessions_is_between) .none kV_Sessions_is_between dc_Sessions_is_between pm_Sessions_is_between an_Sessions_is_between cd_Sessions_is_between ct_Sessions_is_between), sl_Sessions_is_between⟩) (c_Sessions_is_between : PySem.W.codeIn K cd_Sessions_is_between (Str.ofString "Sessions.is_between") = true) (k_Sessions_is_between : PySem.W.keepIn K (.ref f_Sessions_is_between) = true)
    {f_Sessions_names : Addr} {od_Sessions_names an_Sessions_names : Option Addr} {sl_Sessions_names : Array (Option Value)} {oc_Sessions_names kV_Sessions_names dc_Sessions_names pm_Sessions_names ct_Sessions_names : Value} {cd_Sessions_names : Value} (a_Sessions_names : PySem.W.findIn K (.ref C_Sessions) (Str.ofString "names") = some (some (.ref f_Sessions_names))) (i_Sessions_names : PySem.W.isFn K (.ref f_Sessions_names) = true) (l_Sessions_names : K.lookup f_Sessions_names = some ⟨oc_Sessions_names, od_Sessions_names, .func (PySem.W.fnOf (Str.ofString "names") (Str.ofString "Sessions.names") (defArgs st_Sessions_names) (defBody st_Sessions_names) (defScope st_Sessions_names) .none kV_Sessions_names dc_Sessions_names pm_Sessions_names an_Sessions_names cd_Sessions_names ct_Sessions_names), sl_Sessions_names⟩) (c_Sessions_names : PySem.W.codeIn K cd_Sessions_names (Str.ofString "Sessions.names") = true) (k_Sessions_names : PySem.W.keepIn K (.ref f_Sessions_names) = true)
    {f_Sessions_common : Addr} {od_Sessions_common an_Sessions_common : Option Addr} {sl_Sessions_common : Array (Option Value)} {oc_Sessions_common kV_Sessions_common dc_Sessions_common pm_Sessions_common ct_Sessions_common : Value} {cd_Sessions_common : Value} (a_Sessions_common : PySem.W.findIn K (.ref C_Sessions) (Str.ofString "common") = some (some (.ref f_Sessions_common))) (i_Sessions_common : PySem.W.isFn K (.ref f_Sessions_common) = true) (l_Sessions_common : K.lookup f_Sessions_common = some ⟨oc_Sessions_common, od_Sessions_common, .func (PySem.W.fnOf (Str.ofString "common") (Str.ofString "Sessions.common") (defArgs st_Sessions_common) (defBody st_Sessions_common) (defScope st_Sessions_common) .none kV_Sessions_common dc_Sessions_common pm_Sessions_common an_Sessions_common cd_Sessions_common ct_Sessions_common), sl_Sessions_common⟩) (c_Sessions_common : PySem.W.codeIn K cd_Sessions_common (Str.ofString "Sessions.common") = true) (k_Sessions_common : PySem.W.keepIn K (.ref f_Sessions_common) = true)
    {f_Course_stands_against : Addr} {od_Course_stands_against an_Course_stands_against : Option Addr} {sl_Course_stands_against : Array (Option Value)} {oc_Course_stands_against kV_Course_stands_against dc_Course_stands_against pm_Course_stands_against ct_Course_stands_against : Value} {cd_Course_stands_against : Value} (a_Course_stands_against : PySem.W.findIn K (.ref C_Course) (Str.ofString "stands_against") = some (some (.ref f_Course_stands_against))) (i_Course_stands_against : PySem.W.isFn K (.ref f_Course_stands_against) = true) (l_Course_stands_against : K.lookup f_Course_stands_against = some ⟨oc_Course_stands_against, od_Course_stands_against, .func (PySem.W.fnOf (Str.ofString "stands_against") (Str.ofString "Course.stands_against") (defArgs st_Course_stands_against) (defBody st_Course_stands_against) (defScope st_Course_stands_against) .none kV_Course_stands_against dc_Course_stands_against pm_Course_stands_against an_Course_stands_against cd_Course_stands_against ct_Course_stands_against), sl_Course_stands_against⟩) (c_Course_stands_against : PySem.W.codeIn K cd_Course_stands_against (Str.ofString "Course.stands_against") = true) (k_Course_stands_against : PySem.W.keepIn K (.ref f_Course_stands_against) = true)
    {f_Course_come : Addr} {od_Course_come an_Course_come : Option Addr} {sl_Course_come : Array (Option Value)} {oc_Course_come kV_Course_come dc_Course_come pm_Course_come ct_Course_come : Value} {cd_Course_come : Value} (a_Course_come : PySem.W.findIn K (.ref C_Course) (Str.ofString "come") = some (some (.ref f_Course_come))) (i_Course_come : PySem.W.isFn K (.ref f_Course_come) = true) (l_Course_come : K.lookup f_Course_come = some ⟨oc_Course_come, od_Course_come, .func (PySem.W.fnOf (Str.ofString "come") (Str.ofString "Course.come") (defArgs st_Course_come) (defBody st_Course_come) (defScope st_Course_come) .none kV_Course_come dc_Course_come pm_Course_come an_Course_come cd_Course_come ct_Course_come), sl_Course_come⟩) (c_Course_come : PySem.W.codeIn K cd_Course_come (Str.ofString "Course.come") = true) (k_Course_come : PySem.W.keepIn K (.ref f_Course_come) = true)
    {f_Course_init : Addr} {od_Course_init an_Course_init : Option Addr} {sl_Course_init : Array (Option Value)} {oc_Course_init kV_Course_init dc_Course_init pm_Course_init ct_Course_init : Value} {cd_Course_init : Value} (a_Course_init : PySem.W.findIn K (.ref C_Course) (Str.ofString "__init__") = some (some (.ref f_Course_init))) (i_Course_init : PySem.W.isFn K (.ref f_Course_init) = true) (l_Course_init : K.lookup f_Course_init = some ⟨oc_Course_init, od_Course_init, .func (PySem.W.fnOf (Str.ofString "__init__") (Str.ofString "Course.__init__") (defArgs st_Course_init) (defBody st_Course_init) (defScope st_Course_init) .none kV_Course_init dc_Course_init pm_Course_init an_Course_init cd_Course_init ct_Course_init), sl_Course_init⟩) (c_Course_init : PySem.W.codeIn K cd_Course_init (Str.ofString "Course.__init__") = true) (k_Course_init : PySem.W.keepIn K (.ref f_Course_init) = true)
    {f_course_of : Addr} {od_course_of an_course_of : Option Addr} {sl_course_of : Array (Option Value)} {oc_course_of kV_course_of dc_course_of pm_course_of ct_course_of : Value} {cd_course_of : Value} (a_course_of : PySem.W.nsIn K mainGlobals (Str.ofString "course_of") = some (some (.ref f_course_of))) (l_course_of : K.lookup f_course_of = some ⟨oc_course_of, od_course_of, .func (PySem.W.fnOf (Str.ofString "course_of") (Str.ofString "course_of") (defArgs st_course_of) (defBody st_course_of) (defScope st_course_of) .none kV_course_of dc_course_of pm_course_of an_course_of cd_course_of ct_course_of), sl_course_of⟩) (c_course_of : PySem.W.codeIn K cd_course_of (Str.ofString "course_of") = true) (k_course_of : PySem.W.keepIn K (.ref f_course_of) = true)
    {f_accepted : Addr} {od_accepted an_accepted : Option Addr} {sl_accepted : Array (Option Value)} {oc_accepted kV_accepted dc_accepted pm_accepted ct_accepted : Value} {cd_accepted : Value} (a_accepted : PySem.W.nsIn K mainGlobals (Str.ofString "accepted") = some (some (.ref f_accepted))) (l_accepted : K.lookup f_accepted = some ⟨oc_accepted, od_accepted, .func (PySem.W.fnOf (Str.ofString "accepted") (Str.ofString "accepted") (defArgs st_accepted) (defBody st_accepted) (defScope st_accepted) .none kV_accepted dc_accepted pm_accepted an_accepted cd_accepted ct_accepted), sl_accepted⟩) (c_accepted : PySem.W.codeIn K cd_accepted (Str.ofString "accepted") = true) (k_accepted : PySem.W.keepIn K (.ref f_accepted) = true)
    {f_seen_by : Addr} {od_seen_by an_seen_by : Option Addr} {sl_seen_by : Array (Option Value)} {oc_seen_by kV_seen_by dc_seen_by pm_seen_by ct_seen_by : Value} {cd_seen_by : Value} (a_seen_by : PySem.W.nsIn K mainGlobals (Str.ofString "seen_by") = some (some (.ref f_seen_by))) (l_seen_by : K.lookup f_seen_by = some ⟨oc_seen_by, od_seen_by, .func (PySem.W.fnOf (Str.ofString "seen_by") (Str.ofString "seen_by") (defArgs st_seen_by) (defBody st_seen_by) (defScope st_seen_by) .none kV_seen_by dc_seen_by pm_seen_by an_seen_by cd_seen_by ct_seen_by), sl_seen_by⟩) (c_seen_by : PySem.W.codeIn K cd_seen_by (Str.ofString "seen_by") = true) (k_seen_by : PySem.W.keepIn K (.ref f_seen_by) = true)
    {f_without : Addr} {od_without an_without : Option Addr} {sl_without : Array (Option Value)} {oc_without kV_without dc_without pm_without ct_without : Value} {cd_without : Value} (a_without : PySem.W.nsIn K mainGlobals (Str.ofString "without") = some (some (.ref f_without))) (l_without : K.lookup f_without = some ⟨oc_without, od_without, .func (PySem.W.fnOf (Str.ofString "without") (Str.ofString "without") (defArgs st_without) (defBody st_without) (defScope st_without) .none kV_without dc_without pm_without an_without cd_without ct_without), sl_without⟩) (c_without : PySem.W.codeIn K cd_without (Str.ofString "without") = true) (k_without : PySem.W.keepIn K (.ref f_without) = true)
    {f_alone : Addr} {od_alone an_alone : Option Addr} {sl_alone : Array (Option Value)} {oc_alone kV_alone dc_alone pm_alone ct_alone : Value} {cd_alone : Value} (a_alone : PySem.W.nsIn K mainGlobals (Str.ofString "alone") = some (some (.ref f_alone))) (l_alone : K.lookup f_alone = some ⟨oc_alone, od_alone, .func (PySem.W.fnOf (Str.ofString "alone") (Str.ofString "alone") (defArgs st_alone) (defBody st_alone) (defScope st_alone) .none kV_alone dc_alone pm_alone an_alone cd_alone ct_alone), sl_alone⟩) (c_alone : PySem.W.codeIn K cd_alone (Str.ofString "alone") = true) (k_alone : PySem.W.keepIn K (.ref f_alone) = true)
    {f_law_same : Addr} {od_law_same an_law_same : Option Addr} {sl_law_same : Array (Option Value)} {oc_law_same kV_law_same dc_law_same pm_law_same ct_law_same : Value} {cd_law_same : Value} (a_law_same : PySem.W.nsIn K mainGlobals (Str.ofString "_law_same") = some (some (.ref f_law_same))) (l_law_same : K.lookup f_law_same = some ⟨oc_law_same, od_law_same, .func (PySem.W.fnOf (Str.ofString "_law_same") (Str.ofString "_law_same") (defArgs st_law_same) (defBody st_law_same) (defScope st_law_same) .none kV_law_same dc_law_same pm_law_same an_law_same cd_law_same ct_law_same), sl_law_same⟩) (c_law_same : PySem.W.codeIn K cd_law_same (Str.ofString "_law_same") = true) (k_law_same : PySem.W.keepIn K (.ref f_law_same) = true)
    {f_law_known_right : Addr} {od_law_known_right an_law_known_right : Option Addr} {sl_law_known_right : Array (Option Value)} {oc_law_known_right kV_law_known_right dc_law_known_right pm_law_known_right ct_law_known_right : Value} {cd_law_known_right : Value} (a_law_known_right : PySem.W.nsIn K mainGlobals (Str.ofString "_law_known_right") = some (some (.ref f_law_known_right))) (l_law_known_right : K.lookup f_law_known_right = some ⟨oc_law_known_right, od_law_known_right, .func (PySem.W.fnOf (Str.ofString "_law_known_right") (Str.ofString "_law_known_right") (defArgs st_law_known_right) (defBody st_law_known_right) (defScope st_law_known_right) .none kV_law_known_right dc_law_known_right pm_law_known_right an_law_known_right cd_law_known_right ct_law_known_right), sl_law_known_right⟩) (c_law_known_right : PySem.W.codeIn K cd_law_known_right (Str.ofString "_law_known_right") = true) (k_law_known_right : PySem.W.keepIn K (.ref f_law_known_right) = true)
    {f_law_lists : Addr} {od_law_lists an_law_lists : Option Addr} {sl_law_lists : Array (Option Value)} {oc_law_lists kV_law_lists dc_law_lists pm_law_lists ct_law_lists : Value} {cd_law_lists : Value} (a_law_lists : PySem.W.nsIn K mainGlobals (Str.ofString "_law_lists") = some (some (.ref f_law_lists))) (l_law_lists : K.lookup f_law_lists = some ⟨oc_law_lists, od_law_lists, .func (PySem.W.fnOf (Str.ofString "_law_lists") (Str.ofString "_law_lists") (defArgs st_law_lists) (defBody st_law_lists) (defScope st_law_lists) .none kV_law_lists dc_law_lists pm_law_lists an_law_lists cd_law_lists ct_law_lists), sl_law_lists⟩) (c_law_lists : PySem.W.codeIn K cd_law_lists (Str.ofString "_law_lists") = true) (k_law_lists : PySem.W.keepIn K (.ref f_law_lists) = true)
    {f_law_is_amid : Addr} {od_law_is_amid an_law_is_amid : Option Addr} {sl_law_is_amid : Array (Option Value)} {oc_law_is_amid kV_law_is_amid dc_law_is_amid pm_law_is_amid ct_law_is_amid : Value} {cd_law_is_amid : Value} (a_law_is_amid : PySem.W.nsIn K mainGlobals (Str.ofString "_law_is_amid") = some (some (.ref f_law_is_amid))) (l_law_is_amid : K.lookup f_law_is_amid = some ⟨oc_law_is_amid, od_law_is_amid, .func (PySem.W.fnOf (Str.ofString "_law_is_amid") (Str.ofString "_law_is_amid") (defArgs st_law_is_amid) (defBody st_law_is_amid) (defScope st_law_is_amid) .none kV_law_is_amid dc_law_is_amid pm_law_is_amid an_law_is_amid cd_law_is_amid ct_law_is_amid), sl_law_is_amid⟩) (c_law_is_amid : PySem.W.codeIn K cd_law_is_amid (Str.ofString "_law_is_amid") = true) (k_law_is_amid : PySem.W.keepIn K (.ref f_law_is_amid) = true)
    {f_law_meet : Addr} {od_law_meet an_law_meet : Option Addr} {sl_law_meet : Array (Option Value)} {oc_law_meet kV_law_meet dc_law_meet pm_law_meet ct_law_meet : Value} {cd_law_meet : Value} (a_law_meet : PySem.W.nsIn K mainGlobals (Str.ofString "_law_meet") = some (some (.ref f_law_meet))) (l_law_meet : K.lookup f_law_meet = some ⟨oc_law_meet, od_law_meet, .func (PySem.W.fnOf (Str.ofString "_law_meet") (Str.ofString "_law_meet") (defArgs st_law_meet) (defBody st_law_meet) (defScope st_law_meet) .none kV_law_meet dc_law_meet pm_law_meet an_law_meet cd_law_meet ct_law_meet), sl_law_meet⟩) (c_law_meet : PySem.W.codeIn K cd_law_meet (Str.ofString "_law_meet") = true) (k_law_meet : PySem.W.keepIn K (.ref f_law_meet) = true)
    {f_law_let : Addr} {od_law_let an_law_let : Option Addr} {sl_law_let : Array (Option Value)} {oc_law_let kV_law_let dc_law_let pm_law_let ct_law_let : Value} {cd_law_let : Value} (a_law_let : PySem.W.nsIn K mainGlobals (Str.ofString "_law_let") = some (some (.ref f_law_let))) (l_law_let : K.lookup f_law_let = some ⟨oc_law_let, od_law_let, .func (PySem.W.fnOf (Str.ofString "_law_let") (Str.ofString "_law_let") (defArgs st_law_let) (defBody st_law_let) (defScope st_law_let) .none kV_law_let dc_law_let pm_law_let an_law_let cd_law_let ct_law_let), sl_law_let⟩) (c_law_let : PySem.W.codeIn K cd_law_let (Str.ofString "_law_let") = true) (k_law_let : PySem.W.keepIn K (.ref f_law_let) = true)
    {f_law_one_right : Addr} {od_law_one_right an_law_one_right : Option Addr} {sl_law_one_right : Array (Option Value)} {oc_law_one_right kV_law_one_right dc_law_one_right pm_law_one_right ct_law_one_right : Value} {cd_law_one_right : Value} (a_law_one_right : PySem.W.nsIn K mainGlobals (Str.ofString "_law_one_right") = some (some (.ref f_law_one_right))) (l_law_one_right : K.lookup f_law_one_right = some ⟨oc_law_one_right, od_law_one_right, .func (PySem.W.fnOf (Str.ofString "_law_one_right") (Str.ofString "_law_one_right") (defArgs st_law_one_right) (defBody st_law_one_right) (defScope st_law_one_right) .none kV_law_one_right dc_law_one_right pm_law_one_right an_law_one_right cd_law_one_right ct_law_one_right), sl_law_one_right⟩) (c_law_one_right : PySem.W.codeIn K cd_law_one_right (Str.ofString "_law_one_right") = true) (k_law_one_right : PySem.W.keepIn K (.ref f_law_one_right) = true)
    {f_law_right : Addr} {od_law_right an_law_right : Option Addr} {sl_law_right : Array (Option Value)} {oc_law_right kV_law_right dc_law_right pm_law_right ct_law_right : Value} {cd_law_right : Value} (a_law_right : PySem.W.nsIn K mainGlobals (Str.ofString "_law_right") = some (some (.ref f_law_right))) (l_law_right : K.lookup f_law_right = some ⟨oc_law_right, od_law_right, .func (PySem.W.fnOf (Str.ofString "_law_right") (Str.ofString "_law_right") (defArgs st_law_right) (defBody st_law_right) (defScope st_law_right) .none kV_law_right dc_law_right pm_law_right an_law_right cd_law_right ct_law_right), sl_law_right⟩) (c_law_right : PySem.W.codeIn K cd_law_right (Str.ofString "_law_right") = true) (k_law_right : PySem.W.keepIn K (.ref f_law_right) = true)
    {f_law : Addr} {od_law an_law : Option Addr} {sl_law : Array (Option Value)} {oc_law kV_law dc_law pm_law ct_law : Value} {cd_law : Value} (a_law : PySem.W.nsIn K mainGlobals (Str.ofString "law") = some (some (.ref f_law))) (l_law : K.lookup f_law = some ⟨oc_law, od_law, .func (PySem.W.fnOf (Str.ofString "law") (Str.ofString "law") (defArgs st_law) (defBody st_law) (defScope st_law) .none kV_law dc_law pm_law an_law cd_law ct_law), sl_law⟩) (c_law : PySem.W.codeIn K cd_law (Str.ofString "law") = true) (k_law : PySem.W.keepIn K (.ref f_law) = true)
    (z_abs : PySem.W.nsIn K mainGlobals (Str.ofString "abs") = some none)
    (z_all : PySem.W.nsIn K mainGlobals (Str.ofString "all") = some none)
    (z_bool : PySem.W.nsIn K mainGlobals (Str.ofString "bool") = some none)
    (z_enumerate : PySem.W.nsIn K mainGlobals (Str.ofString "enumerate") = some none)
    (z_int : PySem.W.nsIn K mainGlobals (Str.ofString "int") = some none)
    (z_isinstance : PySem.W.nsIn K mainGlobals (Str.ofString "isinstance") = some none)
    (z_len : PySem.W.nsIn K mainGlobals (Str.ofString "len") = some none)
    (z_list : PySem.W.nsIn K mainGlobals (Str.ofString "list") = some none)
    (z_max : PySem.W.nsIn K mainGlobals (Str.ofString "max") = some none)
    (z_min : PySem.W.nsIn K mainGlobals (Str.ofString "min") = some none)
    (z_range : PySem.W.nsIn K mainGlobals (Str.ofString "range") = some none)
    (z_set : PySem.W.nsIn K mainGlobals (Str.ofString "set") = some none)
    (z_sorted : PySem.W.nsIn K mainGlobals (Str.ofString "sorted") = some none)
    (z_str : PySem.W.nsIn K mainGlobals (Str.ofString "str") = some none)
    (z_tuple : PySem.W.nsIn K mainGlobals (Str.ofString "tuple") = some none)
    (z_zip : PySem.W.nsIn K mainGlobals (Str.ofString "zip") = some none)
    {t_CHECK : Tok} (v_CHECK : PySem.W.nsIn K mainGlobals (Str.ofString "CHECK") = some (some (.str (Str.ofString "check") t_CHECK)))
    {t_LOCK : Tok} (v_LOCK : PySem.W.nsIn K mainGlobals (Str.ofString "LOCK") = some (some (.str (Str.ofString "lock") t_LOCK)))
    {t_MERGE : Tok} (v_MERGE : PySem.W.nsIn K mainGlobals (Str.ofString "MERGE") = some (some (.str (Str.ofString "merge") t_MERGE))) :
    LamX.LawAtS l w K (L2.CX l.prog w) 22 63 (Str.ofString "_law_script") mg fa h := by
  letI TB : Tabl := ⟨[(Pa_Course_order, Str.ofString "Course.order" ++ ".<locals>." ++ "<lambda>")], by simp⟩
  have T : BT mg := ⟨PySem.W.mg_none_of X G z_abs, PySem.W.mg_none_of X G z_all, PySem.W.mg_none_of X G z_bool, PySem.W.mg_none_of X G z_enumerate, PySem.W.mg_none_of X G z_int, PySem.W.mg_none_of X G z_isinstance, PySem.W.mg_none_of X G z_len, PySem.W.mg_none_of X G z_list, PySem.W.mg_none_of X G z_max, PySem.W.mg_none_of X G z_min, PySem.W.mg_none_of X G z_range, PySem.W.mg_none_of X G z_set, PySem.W.mg_none_of X G z_sorted, PySem.W.mg_none_of X G z_str, PySem.W.mg_none_of X G z_tuple, PySem.W.mg_none_of X G z_zip, ⟨_, PySem.W.mg_of X G v_CHECK⟩, ⟨_, PySem.W.mg_of X G v_LOCK⟩, ⟨_, PySem.W.mg_of X G v_MERGE⟩⟩
  have S_Course : SlX.SCls K C_Course := ⟨kb_Course, kc_Course, kd_Course, ke_Course⟩
  have Z_Course := clR_mk (sl := [Str.ofString "own_reasons", Str.ofString "own_rule", Str.ofString "own_sessions", Str.ofString "own_taken"]) X G ka_Course S_Course ⟨⟨p_Course_0, sa_Course_0, sb_Course_0, sc_Course_0, sd_Course_0, se_Course_0, by decide⟩, ⟨⟨p_Course_1, sa_Course_1, sb_Course_1, sc_Course_1, sd_Course_1, se_Course_1, by decide⟩, ⟨⟨p_Course_2, sa_Course_2, sb_Course_2, sc_Course_2, sd_Course_2, se_Course_2, by decide⟩, ⟨⟨p_Course_3, sa_Course_3, sb_Course_3, sc_Course_3, sd_Course_3, se_Course_3, by decide⟩, True.intro⟩⟩⟩⟩ kf_Course kg_Course
  have S_Sessions : SlX.SCls K C_Sessions := ⟨kb_Sessions, kc_Sessions, kd_Sessions, ke_Sessions⟩
  have Z_Sessions := clR_mk (sl := [Str.ofString "own_rows"]) X G ka_Sessions S_Sessions ⟨⟨p_Sessions_0, sa_Sessions_0, sb_Sessions_0, sc_Sessions_0, sd_Sessions_0, se_Sessions_0, by decide⟩, True.intro⟩ kf_Sessions kg_Sessions
  have Z : CT K mg := ⟨Z_Course, Z_Sessions⟩
  have R_law_box : Raw K mg (Str.ofString "_law_box") st_law_box := raw_mk X G a_law_box l_law_box c_law_box k_law_box
  have R_law_cells : Raw K mg (Str.ofString "_law_cells") st_law_cells := raw_mk X G a_law_cells l_law_cells c_law_cells k_law_cells
  have R_law_take : Raw K mg (Str.ofString "_law_take") st_law_take := raw_mk X G a_law_take l_law_take c_law_take k_law_take
  have R_law_of : Raw K mg (Str.ofString "_law_of") st_law_of := raw_mk X G a_law_of l_law_of c_law_of k_law_of
  have R_law_sessions : Raw K mg (Str.ofString "_law_sessions") st_law_sessions := raw_mk X G a_law_sessions l_law_sessions c_law_sessions k_law_sessions
  have R_tupled : Raw K mg (Str.ofString "tupled") st_tupled := raw_mk X G a_tupled l_tupled c_tupled k_tupled
  have R_Sessions_init : RawM K mg (Str.ofString "Sessions") (Str.ofString "__init__") (Str.ofString "Sessions.__init__") st_Sessions_init := rawM_mk X G ka_Sessions S_Sessions a_Sessions_init i_Sessions_init l_Sessions_init c_Sessions_init k_Sessions_init
  have R_Sessions_check : RawM K mg (Str.ofString "Sessions") (Str.ofString "check") (Str.ofString "Sessions.check") st_Sessions_check := rawM_mk X G ka_Sessions S_Sessions a_Sessions_check i_Sessions_check l_Sessions_check c_Sessions_check k_Sessions_check
  have R_Sessions_opening : RawM K mg (Str.ofString "Sessions") (Str.ofString "opening") (Str.ofString "Sessions.opening") st_Sessions_opening := rawM_mk X G ka_Sessions S_Sessions a_Sessions_opening i_Sessions_opening l_Sessions_opening c_Sessions_opening k_Sessions_opening
  have R_Sessions_saving : RawM K mg (Str.ofString "Sessions") (Str.ofString "saving") (Str.ofString "Sessions.saving") st_Sessions_saving := rawM_mk X G ka_Sessions S_Sessions a_Sessions_saving i_Sessions_saving l_Sessions_saving c_Sessions_saving k_Sessions_saving
  have R_Course_let_by : RawM K mg (Str.ofString "Course") (Str.ofString "let_by") (Str.ofString "Course.let_by") st_Course_let_by := rawM_mk X G ka_Course S_Course a_Course_let_by i_Course_let_by l_Course_let_by c_Course_let_by k_Course_let_by
  have R_Sessions_numbers : RawM K mg (Str.ofString "Sessions") (Str.ofString "numbers") (Str.ofString "Sessions.numbers") st_Sessions_numbers := rawM_mk X G ka_Sessions S_Sessions a_Sessions_numbers i_Sessions_numbers l_Sessions_numbers c_Sessions_numbers k_Sessions_numbers
  have R_Course_order : RawML K mg (Str.ofString "Course") (Str.ofString "order") (Str.ofString "Course.order") st_Course_order ca_Course_order := rawM_mkL X G ka_Course S_Course a_Course_order i_Course_order l_Course_order c_Course_order k_Course_order
  have R_Sessions_is_between : RawM K mg (Str.ofString "Sessions") (Str.ofString "is_between") (Str.ofString "Sessions.is_between") st_Sessions_is_between := rawM_mk X G ka_Sessions S_Sessions a_Sessions_is_between i_Sessions_is_between l_Sessions_is_between c_Sessions_is_between k_Sessions_is_between
  have R_Sessions_names : RawM K mg (Str.ofString "Sessions") (Str.ofString "names") (Str.ofString "Sessions.names") st_Sessions_names := rawM_mk X G ka_Sessions S_Sessions a_Sessions_names i_Sessions_names l_Sessions_names c_Sessions_names k_Sessions_names
  have R_Sessions_common : RawM K mg (Str.ofString "Sessions") (Str.ofString "common") (Str.ofString "Sessions.common") st_Sessions_common := rawM_mk X G ka_Sessions S_Sessions a_Sessions_common i_Sessions_common l_Sessions_common c_Sessions_common k_Sessions_common
  have R_Course_stands_against : RawM K mg (Str.ofString "Course") (Str.ofString "stands_against") (Str.ofString "Course.stands_against") st_Course_stands_against := rawM_mk X G ka_Course S_Course a_Course_stands_against i_Course_stands_against l_Course_stands_against c_Course_stands_against k_Course_stands_against
  have R_Course_come : RawM K mg (Str.ofString "Course") (Str.ofString "come") (Str.ofString "Course.come") st_Course_come := rawM_mk X G ka_Course S_Course a_Course_come i_Course_come l_Course_come c_Course_come k_Course_come
  have R_Course_init : RawM K mg (Str.ofString "Course") (Str.ofString "__init__") (Str.ofString "Course.__init__") st_Course_init := rawM_mk X G ka_Course S_Course a_Course_init i_Course_init l_Course_init c_Course_init k_Course_init
  have R_course_of : Raw K mg (Str.ofString "course_of") st_course_of := raw_mk X G a_course_of l_course_of c_course_of k_course_of
  have R_accepted : Raw K mg (Str.ofString "accepted") st_accepted := raw_mk X G a_accepted l_accepted c_accepted k_accepted
  have R_seen_by : Raw K mg (Str.ofString "seen_by") st_seen_by := raw_mk X G a_seen_by l_seen_by c_seen_by k_seen_by
  have R_without : Raw K mg (Str.ofString "without") st_without := raw_mk X G a_without l_without c_without k_without
  have R_alone : Raw K mg (Str.ofString "alone") st_alone := raw_mk X G a_alone l_alone c_alone k_alone
  have R_law_same : Raw K mg (Str.ofString "_law_same") st_law_same := raw_mk X G a_law_same l_law_same c_law_same k_law_same
  have R_law_known_right : Raw K mg (Str.ofString "_law_known_right") st_law_known_right := raw_mk X G a_law_known_right l_law_known_right c_law_known_right k_law_known_right
  have R_law_lists : Raw K mg (Str.ofString "_law_lists") st_law_lists := raw_mk X G a_law_lists l_law_lists c_law_lists k_law_lists
  have R_law_is_amid : Raw K mg (Str.ofString "_law_is_amid") st_law_is_amid := raw_mk X G a_law_is_amid l_law_is_amid c_law_is_amid k_law_is_amid
  have R_law_meet : Raw K mg (Str.ofString "_law_meet") st_law_meet := raw_mk X G a_law_meet l_law_meet c_law_meet k_law_meet
  have R_law_let : Raw K mg (Str.ofString "_law_let") st_law_let := raw_mk X G a_law_let l_law_let c_law_let k_law_let
  have R_law_one_right : Raw K mg (Str.ofString "_law_one_right") st_law_one_right := raw_mk X G a_law_one_right l_law_one_right c_law_one_right k_law_one_right
  have R_law_right : Raw K mg (Str.ofString "_law_right") st_law_right := raw_mk X G a_law_right l_law_right c_law_right k_law_right
  have R_law : Raw K mg (Str.ofString "law") st_law := raw_mk X G a_law l_law c_law k_law
  exact law_allT (cs := [(ca_Course_order, Pa_Course_order)]) MM.law_is hfa (fun _ _ F s v => by obtain ⟨oc, od, kV, doc, pm, an, cdv, ct, osl, rfl, lk, hcd⟩ := F.ex; exact .of_eq rfl) R_law (List.forall_mem_cons.mpr ⟨⟨(ca_Course_order, Pa_Course_order), by simp, rfl⟩, (fun _ z => nomatch z)⟩) (List.forall_mem_cons.mpr ⟨le_Course_order, (fun _ z => nomatch z)⟩) (List.forall_mem_cons.mpr ⟨ld_Course_order, (fun _ z => nomatch z)⟩) (List.forall_mem_cons.mpr ⟨PySem.W.codeHd_of_K X lc_Course_order, (fun _ z => nomatch z)⟩) fun base tb => all_ok T Z R_law_box R_law_cells R_law_take R_law_of R_law_sessions R_tupled R_Sessions_init R_Sessions_check R_Sessions_opening R_Sessions_saving R_Course_let_by R_Sessions_numbers R_Course_order (tb (ca_Course_order, Pa_Course_order) (by simp)) (by exact (.head _)) R_Sessions_is_between R_Sessions_names R_Sessions_common R_Course_stands_against R_Course_come R_Course_init R_course_of R_accepted R_seen_by R_without R_alone R_law_same R_law_known_right R_law_lists R_law_is_amid R_law_meet R_law_let R_law_one_right R_law_right R_law
end MM
open PySem PySem.W PyProof.Rows
set_option maxHeartbeats 0 in
theorem PySem.Challenge.cw_saveclash_k04_seen_without_alone_holds : PySem.Challenge.rw_saveclash_k04_seen_without_alone.Holds := by
  w_on; o_law; k_head; (case hw => w_witness2)
  k_fill
  refine LamX.walk_ofTs (l := PySem.Challenge.rw_saveclash_k04_seen_without_alone) (n := 63) (k := 22) (x := PySem.Str.ofString "_law_script") (CX := fun w => L2.CX (PySem.Challenge.rw_saveclash_k04_seen_without_alone).prog w) rfl (by decide) rfl ⟨rfl, by decide, by decide⟩ (fun w h Y => PySem.W.km_in_of Y) ?F (fun w H s e s1 => MM.law_cx (TB := MM.tab0) H s e s1)
  case F =>
    intro w mg fa h Y KX G hmg
    have hT := PySem.W.km_tabs_of Y
    refine' MM.fin_ok KX G hmg ?y0 ?y1 ?y2 ?y3 ?y4 ?y5 ?y6 ?y7 ?y8 ?y9 ?y10 ?y11 ?y12 ?y13 ?y14 ?y15 ?y16 ?y17 ?y18 ?y19 ?y20 ?y21 ?y22 ?y23 ?y24 ?y25 ?y26 ?y27 ?y28 ?y29 ?y30 ?y31 ?y32 ?y33 ?y34 ?y35 ?y36 ?y37 ?y38 ?y39 ?y40 ?y41 ?y42 ?y43 ?y44 ?y45 ?y46 ?y47 ?y48 ?y49 ?y50 ?y51 ?y52 ?y53 ?y54 ?y55 ?y56 ?y57 ?y58 ?y59 ?y60 ?y61 ?y62 ?y63 ?y64 ?y65 ?y66 ?y67 ?y68 ?y69 ?y70 ?y71 ?y72 ?y73 ?y74 ?y75 ?y76 ?y77 ?y78 ?y79 ?y80 ?y81 ?y82 ?y83 ?y84 ?y85 ?y86 ?y87 ?y88 ?y89 ?y90 ?y91 ?y92 ?y93 ?y94 ?y95 ?y96 ?y97 ?y98 ?y99 ?y100 ?y101 ?y102 ?y103 ?y104 ?y105 ?y106 ?y107 ?y108 ?y109 ?y110 ?y111 ?y112 ?y113 ?y114 ?y115 ?y116 ?y117 ?y118 ?y119 ?y120 ?y121 ?y122 ?y123 ?y124 ?y125 ?y126 ?y127 ?y128 ?y129 ?y130 ?y131 ?y132 ?y133 ?y134 ?y135 ?y136 ?y137 ?y138 ?y139 ?y140 ?y141 ?y142 ?y143 ?y144 ?y145 ?y146 ?y147 ?y148 ?y149 ?y150 ?y151 ?y152 ?y153 ?y154 ?y155 ?y156 ?y157 ?y158 ?y159 ?y160 ?y161 ?y162 ?y163 ?y164 ?y165 ?y166 ?y167 ?y168 ?y169 ?y170 ?y171 ?y172 ?y173 ?y174 ?y175 ?y176 ?y177 ?y178 ?y179 ?y180 ?y181 ?y182 ?y183 ?y184 ?y185 ?y186 ?y187 ?y188 ?y189 ?y190 ?y191 ?y192 ?y193 ?y194 ?y195 ?y196 ?y197 ?y198 ?y199 ?y200 ?y201 ?y202 ?y203 ?y204 ?y205 ?y206 ?y207
    (case y0 => k_is)
    (case y1 => k_is)
    (case y2 => k_is)
    (case y3 => k_is)
    (case y4 => k_is)
    (case y5 => k_is)
    (case y6 => k_is)
    (case y7 => k_is)
    (case y8 => k_is)
    (case y9 => k_is)
    (case y10 => k_is)
    (case y11 => k_is)
    (case y12 => k_is)
    (case y13 => k_is)
    (case y14 => k_is)
    (case y15 => k_is)
    (case y16 => k_is)
    (case y17 => k_is)
    (case y18 => k_is)
    (case y19 => k_is)
    (case y20 => k_is)
    (case y21 => k_is)
    (case y22 => k_is)
    (case y23 => k_is)
    (case y24 => k_is)
    (case y25 => k_is)
    (case y26 => k_is)
    (case y27 => k_is)
    (case y28 => k_is)
    (case y29 => k_is)
    (case y30 => k_is)
    (case y31 => k_is)
    (case y32 => k_is)
    (case y33 => k_is)
    (case y34 => k_is)
    (case y35 => k_is)
    (case y36 => k_is)
    (case y37 => k_is)
    (case y38 => k_is)
    (case y39 => k_is)
    (case y40 => k_is)
    (case y41 => k_is)
    (case y42 => k_is)
    (case y43 => k_is)
    (case y44 => k_is)
    (case y45 => k_is)
    (case y46 => k_is)
    (case y47 => k_is)
    (case y48 => k_is)
    (case y49 => k_is)
    (case y50 => k_is)
    (case y51 => k_is)
    (case y52 => k_is)
    (case y53 => k_is)
    (case y54 => k_is)
    (case y55 => k_is)
    (case y56 => k_is)
    (case y57 => k_is)
    (case y58 => k_is)
    (case y59 => k_is)
    (case y60 => k_is)
    (case y61 => k_is)
    (case y62 => k_is)
    (case y63 => k_is)
    (case y64 => k_is)
    (case y65 => k_is)
    (case y66 => k_is)
    (case y67 => k_is)
    (case y68 => k_is)
    (case y69 => k_is)
    (case y70 => k_is)
    (case y71 => k_is)
    (case y72 => k_is)
    (case y73 => k_is)
    (case y74 => k_is)
    (case y75 => k_is)
    (case y76 => k_is)
    (case y77 => k_is)
    (case y78 => k_is)
    (case y79 => k_is)
    (case y80 => k_is)
    (case y81 => k_is)
    (case y82 => k_is)
    (case y83 => k_is)
    (case y84 => k_is)
    (case y85 => k_is)
    (case y86 => k_is)
    (case y87 => k_is)
    (case y88 => k_is)
    (case y89 => k_is)
    (case y90 => k_is)
    (case y91 => k_is)
    (case y92 => k_is)
    (case y93 => k_is)
    (case y94 => k_is)
    (case y95 => k_is)
    (case y96 => k_is)
    (case y97 => k_is)
    (case y98 => k_is)
    (case y99 => exact rfl)
    (case y100 => kernel_rfl)
    (case y101 => kernel_rfl)
    (case y102 => exact hT _ (by simp))
    (case y103 => k_is)
    (case y104 => k_is)
    (case y105 => k_is)
    (case y106 => k_is)
    (case y107 => k_is)
    (case y108 => k_is)
    (case y109 => k_is)
    (case y110 => k_is)
    (case y111 => k_is)
    (case y112 => k_is)
    (case y113 => k_is)
    (case y114 => k_is)
    (case y115 => k_is)
    (case y116 => k_is)
    (case y117 => k_is)
    (case y118 => k_is)
    (case y119 => k_is)
    (case y120 => k_is)
    (case y121 => k_is)
    (case y122 => k_is)
    (case y123 => k_is)
    (case y124 => k_is)
    (case y125 => k_is)
    (case y126 => k_is)
    (case y127 => k_is)
    (case y128 => k_is)
    (case y129 => k_is)
    (case y130 => k_is)
    (case y131 => k_is)
    (case y132 => k_is)
    (case y133 => k_is)
    (case y134 => k_is)
    (case y135 => k_is)
    (case y136 => k_is)
    (case y137 => k_is)
    (case y138 => k_is)
    (case y139 => k_is)
    (case y140 => k_is)
    (case y141 => k_is)
    (case y142 => k_is)
    (case y143 => k_is)
    (case y144 => k_is)
    (case y145 => k_is)
    (case y146 => k_is)
    (case y147 => k_is)
    (case y148 => k_is)
    (case y149 => k_is)
    (case y150 => k_is)
    (case y151 => k_is)
    (case y152 => k_is)
    (case y153 => k_is)
    (case y154 => k_is)
    (case y155 => k_is)
    (case y156 => k_is)
    (case y157 => k_is)
    (case y158 => k_is)
    (case y159 => k_is)
    (case y160 => k_is)
    (case y161 => k_is)
    (case y162 => k_is)
    (case y163 => k_is)
    (case y164 => k_is)
    (case y165 => k_is)
    (case y166 => k_is)
    (case y167 => k_is)
    (case y168 => k_is)
    (case y169 => k_is)
    (case y170 => k_is)
    (case y171 => k_is)
    (case y172 => k_is)
    (case y173 => k_is)
    (case y174 => k_is)
    (case y175 => k_is)
    (case y176 => k_is)
    (case y177 => k_is)
    (case y178 => k_is)
    (case y179 => k_is)
    (case y180 => k_is)
    (case y181 => k_is)
    (case y182 => k_is)
    (case y183 => k_is)
    (case y184 => k_is)
    (case y185 => k_is)
    (case y186 => k_is)
    (case y187 => k_is)
    (case y188 => k_is)
    (case y189 => k_is)
    (case y190 => k_is)
    (case y191 => k_is)
    (case y192 => k_is)
    (case y193 => k_is)
    (case y194 => k_is)
    (case y195 => k_is)
    (case y196 => k_is)
    (case y197 => k_is)
    (case y198 => k_is)
    (case y199 => k_is)
    (case y200 => k_is)
    (case y201 => k_is)
    (case y202 => k_is)
    (case y203 => k_is)
    (case y204 => k_is)
    (case y205 => k_is)
    (case y206 => k_is)
    (case y207 => k_is)
