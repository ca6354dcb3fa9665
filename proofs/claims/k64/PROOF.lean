import PyProof.Rows.All
import Wide.All
import OpenK.AllK
import Wide.FinOn
import HandS.ForMost
import HandS.Exc
import HandS.TryOnly
import HandS.ExcOwn
import HandS.WordsExc
import HandS.IsInst
import HandS.Deep
import HandS.Wide
import HandS.More
import HandS.Walk
import HandS.TupMul
import PyProof.StrOps2
import HandS.Dict
import HandS.Small
import HandS.DictComp
import HandS.TupAny
import HandS.Style
import KE.KSortTupG
import PyProof.Rows.SortShellAny
import PyProof.Rows.SortShellSt
import PyProof.Rows.SortStr
import HandS.SortRule
import HandS.Strs
import HandS.Conv
import HandS.List
import HandS.Flt
import HandS.SetKeys
import HandS.NoneIn
import HandS.Iter
import KE.GoesEnum
import KE.KDictZip
import HandS.Zip
import HandS.DictTup
import HandS.ExcIs
import HandS.TryMany
import HandS.TupSets
import HandS.ExcInit
import HandS.Defaults
import HandS.HeadHook1
import HandS.HeadHook2
import HandS.Head0
import HandS.Head1
import HandS.Head2
import HandS.HeadEnd
import HandS.EndBits
import PySem.Challenge.RW_tonguegate_k64_deep_and_wide_texts
set_option Elab.async false
set_option linter.all false
set_option maxRecDepth 100000
set_option maxHeartbeats 0
namespace T
open PySem PySem.W PySem.Calls PyProof.Rows
theorem look9 (h : (PySem.W.OpenLaw.row PySem.Challenge.rw_tonguegate_k64_deep_and_wide_texts).wellSaid = true → (PySem.W.OpenLaw.row PySem.Challenge.rw_tonguegate_k64_deep_and_wide_texts).Holds) : PySem.Challenge.rw_tonguegate_k64_deep_and_wide_texts.Holds := by
  o_law
  rename_i said
  exact h said
end T
set_option Elab.async false
set_option linter.all false
set_option maxRecDepth 100000
set_option maxHeartbeats 2000000
/-! TLa: abstract data, abstract stores, and how they lie in the layer's heap. -/
namespace T
open PySem PySem.Spec PyProof.Rows L2
/-- a value as data: tuples (and lists that nobody writes) by their items, other objects by number -/
inductive D where
  | non | bl (b : Bool) | int (i : Int) | str (x : Str) | tup (ds : List D) | rol (ds : List D) | ref (n : Nat)
/-- an object that may be written -/
inductive O where
  | lst (ds : List D) | dic (kvs : List (Key × D)) | dit (kvs : List (List Key × D)) | ins (c : Nat) (fs : List (Str × D)) | exo (c : Nat)
  | fzk (kvs : List (Key × D)) | fzt (kvs : List (List Key × D))
abbrev S := List O
/-- the outcome of a deed -/
inductive R (α : Type) where
  | ok (a : α) (s : S) | ex (c : Nat) (s : S) | no
def R.bind {α β : Type} (r : R α) (f : α → S → R β) : R β := match r with
  | .ok a s => f a s
  | .ex c s => .ex c s
  | .no => .no
@[simp] theorem R.bind_ok {α β : Type} {a : α} {s : S} {f : α → S → R β} : (R.ok a s).bind f = f a s := rfl
@[simp] theorem R.bind_ex {α β : Type} {c : Nat} {s : S} {f : α → S → R β} : (R.ex c s).bind f = .ex c s := rfl
@[simp] theorem R.bind_no {α β : Type} {f : α → S → R β} : (R.no).bind f = .no := rfl
/-- a deed that raises nothing -/
def R.of {α : Type} : Option (α × S) → R α
  | some (a, s) => .ok a s
  | none => .no
@[simp] theorem R.of_some {α : Type} {a : α} {s : S} : R.of (some (a, s)) = .ok a s := rfl
@[simp] theorem R.of_none {α : Type} : R.of (none : Option (α × S)) = .no := rfl
abbrev Env := List (Option D)
/-- a list that nobody writes: frozen, or the module's own -/
def SqF (K : PySem.W.Frag) (H : Hp) (a : Addr) (xs : List V) : Prop :=
  (∃ o, H a = some (.frz o (.lst xs))) ∨
    ∃ (o : Obj) (its : Array Value) (n : Nat), K.lookup a = some o ∧ o.cls = .type "list" ∧ o.dict = none ∧ o.data = .seq its n ∧ its.size ≤ sizeLine ∧ Vals xs its.toList
theorem SqF.sql {K : PySem.W.Frag} {H : Hp} {a : Addr} {xs : List V} (h : SqF K H a xs) : SqL K H a xs := by
  rcases h with h | h
  · exact .inl (.inr h)
  · exact .inr h
mutual
/-- the value as it lies -/
inductive RD (K : PySem.W.Frag) (m : List Addr) (H : Hp) : V → D → Prop
  | non : RD K m H .non .non
  | bl (b : Bool) : RD K m H (.bl b) (.bl b)
  | int (i : Int) : RD K m H (.int i) (.int i)
  | str (x : Str) : RD K m H (.str x) (.str x)
  | tup {a : Addr} {vs : List V} {ds : List D} : SqT K H a vs → RDs K m H vs ds → RD K m H (.ref a) (.tup ds)
  | rol {a : Addr} {vs : List V} {ds : List D} : SqF K H a vs → RDs K m H vs ds → RD K m H (.ref a) (.rol ds)
  | ref {a : Addr} {n : Nat} : m[n]? = some a → RD K m H (.ref a) (.ref n)
inductive RDs (K : PySem.W.Frag) (m : List Addr) (H : Hp) : List V → List D → Prop
  | nil : RDs K m H [] []
  | cons {v : V} {d : D} {vs : List V} {ds : List D} : RD K m H v d → RDs K m H vs ds → RDs K m H (v :: vs) (d :: ds)
end
abbrev RKs (K : PySem.W.Frag) (m : List Addr) (H : Hp) : List (Key × V) → List (Key × D) → Prop := Paired fun p q => p.1 = q.1 ∧ RD K m H p.2 q.2
abbrev RTs (K : PySem.W.Frag) (m : List Addr) (H : Hp) : List (List Key × V) → List (List Key × D) → Prop := Paired fun p q => p.1 = q.1 ∧ RD K m H p.2 q.2
abbrev RFs (K : PySem.W.Frag) (m : List Addr) (H : Hp) : List (Str × V) → List (Str × D) → Prop := Paired fun p q => p.1 = q.1 ∧ RD K m H p.2 q.2
/-- an own error as it lies, behind its handler too -/
def ExH (cls : Value) (a : Addr) : HO := .ext fun h => ∃ (oe : Obj) (vs : Array Value), h.get? a = some oe ∧ Zc cls none oe ∧ oe.data = .fields vs
theorem exH_ok {P : Program} {w : World} {H : Hp} {h : Heap} {a : Addr} {cls : Value} {oe : Obj} {vs : Array Value} (e : h.get? a = some oe) (z : Zc cls none oe) (d : oe.data = .fields vs) : ObjOk P w H h a (ExH cls a) :=
  ⟨⟨oe, vs, e, z, d⟩, ⟨oe, e⟩, fun _ _ ⟨o, v, q, r⟩ k => ⟨o, v, k o q, r⟩⟩
/-- the object as it lies; ca: the classes' addresses, from 1000 on the errors' -/
def OR (K : PySem.W.Frag) (ca : Nat → Addr) (m : List Addr) (H : Hp) (a : Addr) : O → Prop
  | .lst ds => ∃ vs, H a = some (.lst vs) ∧ RDs K m H vs ds
  | .dic kvs => ∃ kws, H a = some (.dK kws) ∧ RKs K m H kws kvs
  | .dit kvs => ∃ kws, H a = some (.dT kws) ∧ RTs K m H kws kvs
  | .ins c fs => ∃ dx gs, H a = some (.ins (ca c) dx gs) ∧ RFs K m H gs fs
  | .exo c => H a = some (ExH (.ref (ca (1000 + c))) a)
  | .fzk kvs => ∃ od kws, H a = some (.frz od (.dK kws)) ∧ RKs K m H kws kvs
  | .fzt kvs => ∃ od kws, H a = some (.frz od (.dT kws)) ∧ RTs K m H kws kvs
/-- no locked dict -/
def O.nf : O → Bool
  | .fzk _ => false
  | .fzt _ => false
  | _ => true
structure HR (K : PySem.W.Frag) (ca : Nat → Addr) (m : List Addr) (S : S) (H : Hp) : Prop where
  len : m.length = S.length
  nd : m.Nodup
  at_ : ∀ (n : Nat) (a : Addr) (o : O), m[n]? = some a → S[n]? = some o → OR K ca m H a o
/-- what was of ours is so still -/
structure Le (K : PySem.W.Frag) (m : List Addr) (H : Hp) (m' : List Addr) (H' : Hp) : Prop where
  pre : ∀ (n : Nat) (a : Addr), m[n]? = some a → m'[n]? = some a
  tup : ∀ (b : Addr) (xs : List V), SqT K H b xs → SqT K H' b xs
  rol : ∀ (b : Addr) (xs : List V), SqF K H b xs → SqF K H' b xs
/-- from one heap to a later one: what was none of ours stands as it stood -/
structure Ext (K : PySem.W.Frag) (m : List Addr) (H : Hp) (m' : List Addr) (H' : Hp) : Prop extends Le K m H m' H' where
  oth : ∀ (b : Addr) (o : HO), H b = some o → b ∉ m → H' b = some o ∧ b ∉ m'
  frz : ∀ (b : Addr) (o : Obj) (u : HO), H b = some (.frz o u) → H' b = some (.frz o u)
section
variable {K : PySem.W.Frag} {ca : Nat → Addr} {m m1 m2 m' : List Addr} {H H1 H2 H' : Hp} {s s' : S} {a b : Addr} {v : V} {vs xs : List V} {d : D} {ds : List D} {n : Nat} {o : O}
theorem Ext.refl : Ext K m H m H := ⟨⟨fun _ _ h => h, fun _ _ h => h, fun _ _ h => h⟩, fun _ _ h n => ⟨h, n⟩, fun _ _ _ h => h⟩
theorem Ext.trans (x : Ext K m H m1 H1) (y : Ext K m1 H1 m2 H2) : Ext K m H m2 H2 :=
  ⟨⟨fun n a h => y.pre n a (x.pre n a h), fun b xs h => y.tup b xs (x.tup b xs h), fun b xs h => y.rol b xs (x.rol b xs h)⟩, fun b o h nb => y.oth b o (x.oth b o h nb).1 (x.oth b o h nb).2, fun b o u h => y.frz b o u (x.frz b o u h)⟩
mutual
theorem RD.mono (x : Le K m H m1 H1) : ∀ {v : V} {d : D}, RD K m H v d → RD K m1 H1 v d
  | _, _, .non => .non
  | _, _, .bl b => .bl b
  | _, _, .int i => .int i
  | _, _, .str y => .str y
  | _, _, .tup h r => .tup (x.tup _ _ h) (RDs.mono x r)
  | _, _, .rol h r => .rol (x.rol _ _ h) (RDs.mono x r)
  | _, _, .ref h => .ref (x.pre _ _ h)
theorem RDs.mono (x : Le K m H m1 H1) : ∀ {vs : List V} {ds : List D}, RDs K m H vs ds → RDs K m1 H1 vs ds
  | _, _, .nil => .nil
  | _, _, .cons h r => .cons (RD.mono x h) (RDs.mono x r)
end
theorem RKs.mono {κ : Type} (x : Le K m H m1 H1) {ks : List (κ × V)} {ls : List (κ × D)} (r : Paired (fun p q => p.1 = q.1 ∧ RD K m H p.2 q.2) ks ls) : Paired (fun p q => p.1 = q.1 ∧ RD K m1 H1 p.2 q.2) ks ls :=
  Paired.mapP r fun _ _ q => ⟨q.1, q.2.mono x⟩
theorem RDs.length : ∀ {vs : List V} {ds : List D}, RDs K m H vs ds → vs.length = ds.length
  | _, _, .nil => rfl
  | _, _, .cons _ r => by rw [List.length_cons, List.length_cons, RDs.length r]
theorem RDs.get : ∀ {vs : List V} {ds : List D} {i : Nat} {d : D}, RDs K m H vs ds → ds[i]? = some d → ∃ v, vs[i]? = some v ∧ RD K m H v d
  | _, _, _, _, .nil, e => by simp at e
  | _, _, 0, _, .cons h _, e => by simp at e; subst e; exact ⟨_, rfl, h⟩
  | _, _, i + 1, _, .cons _ r, e => by
    obtain ⟨v, h1, h2⟩ := RDs.get (i := i) r (by simpa using e)
    exact ⟨v, by simpa using h1, h2⟩
theorem RDs.getV : ∀ {vs : List V} {ds : List D} {i : Nat} {v : V}, RDs K m H vs ds → vs[i]? = some v → ∃ d, ds[i]? = some d ∧ RD K m H v d
  | _, _, _, _, .nil, e => by simp at e
  | _, _, 0, _, .cons h _, e => by simp at e; subst e; exact ⟨_, rfl, h⟩
  | _, _, i + 1, _, .cons _ r, e => by
    obtain ⟨v, h1, h2⟩ := RDs.getV (i := i) r (by simpa using e)
    exact ⟨v, by simpa using h1, h2⟩
theorem RDs.append : ∀ {vs ws : List V} {ds es : List D}, RDs K m H vs ds → RDs K m H ws es → RDs K m H (vs ++ ws) (ds ++ es)
  | _, _, _, _, .nil, r => r
  | _, _, _, _, .cons h t, r => .cons h (RDs.append t r)
theorem RDs.take : ∀ {vs : List V} {ds : List D} (n : Nat), RDs K m H vs ds → RDs K m H (vs.take n) (ds.take n)
  | _, _, 0, _ => .nil
  | _, _, _ + 1, .nil => .nil
  | _, _, n + 1, .cons h t => .cons h (RDs.take n t)
theorem RDs.drop : ∀ {vs : List V} {ds : List D} (n : Nat), RDs K m H vs ds → RDs K m H (vs.drop n) (ds.drop n)
  | _, _, 0, r => r
  | _, _, _ + 1, .nil => .nil
  | _, _, n + 1, .cons _ t => RDs.drop n t
theorem RDs.go : ∀ {vs ws : List V} {ds es : List D}, RDs K m H vs ds → RDs K m H ws es → RDs K m H (vs.reverseAux ws) (ds.reverseAux es)
  | _, _, _, _, .nil, r => r
  | v :: vs, ws, d :: ds, es, .cons h t, r => RDs.go (vs := vs) (ds := ds) (ws := v :: ws) (es := d :: es) t (.cons h r)
theorem RDs.reverse {vs : List V} {ds : List D} (r : RDs K m H vs ds) : RDs K m H vs.reverse ds.reverse := by
  exact RDs.go r .nil
theorem RDs.set {v : V} {d : D} (h : RD K m H v d) : ∀ {vs : List V} {ds : List D} (i : Nat), RDs K m H vs ds → RDs K m H (vs.set i v) (ds.set i d)
  | _, _, _, .nil => .nil
  | _, _, 0, .cons _ t => .cons h t
  | _, _, i + 1, .cons q t => .cons q (RDs.set h i t)
theorem RDs.eraseIdx : ∀ {vs : List V} {ds : List D} (i : Nat), RDs K m H vs ds → RDs K m H (vs.eraseIdx i) (ds.eraseIdx i)
  | _, _, _, .nil => .nil
  | _, _, 0, .cons _ t => t
  | _, _, i + 1, .cons q t => .cons q (RDs.eraseIdx i t)
theorem RDs.dropLast {vs : List V} {ds : List D} (r : RDs K m H vs ds) : RDs K m H vs.dropLast ds.dropLast := by
  rw [List.dropLast_eq_take, List.dropLast_eq_take, r.length]
  exact r.take _
theorem RDs.replicate {v : V} {d : D} (h : RD K m H v d) : ∀ n : Nat, RDs K m H (List.replicate n v) (List.replicate n d)
  | 0 => .nil
  | n + 1 => .cons h (RDs.replicate h n)
theorem sqT_upd {p : Addr} {u : HO} (hp : ∀ xs o, H p ≠ some (.tup xs) ∧ H p ≠ some (.frz o (.tup xs))) (h : SqT K H a vs) : SqT K (upd H p u) a vs := by
  rcases h with (h | ⟨o, h⟩) | h
  · refine .inl (.inl ?_)
    by_cases e : a = p
    · subst e; exact absurd h (hp vs default).1
    · rw [upd_ne e]; exact h
  · refine .inl (.inr ⟨o, ?_⟩)
    by_cases e : a = p
    · subst e; exact absurd h (hp vs o).2
    · rw [upd_ne e]; exact h
  · exact .inr h
theorem sqF_upd {p : Addr} {u : HO} (hp : ∀ xs o, H p ≠ some (.frz o (.lst xs))) (h : SqF K H a vs) : SqF K (upd H p u) a vs := by
  rcases h with ⟨o, h⟩ | h
  · refine .inl ⟨o, ?_⟩
    by_cases e : a = p
    · subst e; exact absurd h (hp vs o)
    · rw [upd_ne e]; exact h
  · exact .inr h
/-- an address that is free or stands for a written object -/
def Wr (H : Hp) (p : Addr) : Prop := H p = none ∨ Mut (H p)
theorem Wr.tup {p : Addr} (w : Wr H p) (xs : List V) (o : Obj) : H p ≠ some (.tup xs) ∧ H p ≠ some (.frz o (.tup xs)) := by
  rcases w with w | w
  · rw [w]; exact ⟨(fun e => nomatch e), (fun e => nomatch e)⟩
  · constructor <;> (intro e; rw [e] at w; exact w)
theorem Wr.frz {p : Addr} (w : Wr H p) (xs : List V) (o : Obj) : H p ≠ some (.frz o (.lst xs)) := by
  rcases w with w | w
  · rw [w]; exact fun e => nomatch e
  · intro e; rw [e] at w; exact w
theorem Wr.fz {p : Addr} (w : Wr H p) (o : Obj) (u : HO) : H p ≠ some (.frz o u) := by
  rcases w with w | w
  · rw [w]; exact fun e => nomatch e
  · intro e; rw [e] at w; exact w
theorem frz_upd {p : Addr} {u : HO} (w : Wr H p) {b : Addr} {o : Obj} {v : HO} (h : H b = some (.frz o v)) : upd H p u b = some (.frz o v) := by
  rw [upd_ne (show b ≠ p from fun e => w.fz o v (by rw [← e]; exact h))]; exact h
theorem OR.ne (h : OR K ca m H a o) : H a ≠ none := by
  cases o with
  | lst ds => obtain ⟨_, e, _⟩ := h; rw [e]; exact nofun
  | dic ds => obtain ⟨_, e, _⟩ := h; rw [e]; exact nofun
  | dit ds => obtain ⟨_, e, _⟩ := h; rw [e]; exact nofun
  | ins c fs => obtain ⟨_, _, e, _⟩ := h; rw [e]; exact nofun
  | exo c => have e : H a = _ := h; rw [e]; exact nofun
  | fzk ds => obtain ⟨_, _, e, _⟩ := h; rw [e]; exact nofun
  | fzt ds => obtain ⟨_, _, e, _⟩ := h; rw [e]; exact nofun
theorem OR.mut (h : OR K ca m H a o) (hf : o.nf = true) : Mut (H a) := by
  cases o with
  | fzk _ => cases hf
  | fzt _ => cases hf
  | lst ds => obtain ⟨_, e, _⟩ := h; rw [e]; trivial
  | dic ds => obtain ⟨_, e, _⟩ := h; rw [e]; trivial
  | dit ds => obtain ⟨_, e, _⟩ := h; rw [e]; trivial
  | ins c fs => obtain ⟨_, _, e, _⟩ := h; rw [e]; trivial
  | exo c => have e : H a = _ := h; rw [e]; trivial
theorem OR.mono (x : Le K m H m1 H1) (e : H1 a = H a) (h : OR K ca m H a o) : OR K ca m1 H1 a o := by
  cases o with
  | lst ds => obtain ⟨vs, q, r⟩ := h; exact ⟨vs, e.trans q, r.mono x⟩
  | dic ds => obtain ⟨vs, q, r⟩ := h; exact ⟨vs, e.trans q, RKs.mono x r⟩
  | dit ds => obtain ⟨vs, q, r⟩ := h; exact ⟨vs, e.trans q, RKs.mono x r⟩
  | ins c fs => obtain ⟨dx, vs, q, r⟩ := h; exact ⟨dx, vs, e.trans q, RKs.mono x r⟩
  | exo c => exact e.trans h
  | fzk ds => obtain ⟨od, vs, q, r⟩ := h; exact ⟨od, vs, e.trans q, RKs.mono x r⟩
  | fzt ds => obtain ⟨od, vs, q, r⟩ := h; exact ⟨od, vs, e.trans q, RKs.mono x r⟩
theorem HR.some_at (hr : HR K ca m s H) (h : m[n]? = some a) : ∃ o, s[n]? = some o ∧ OR K ca m H a o := by
  have hl : n < s.length := by rw [← hr.len]; exact (List.getElem?_eq_some_iff.mp h).1
  exact ⟨s[n], List.getElem?_eq_getElem hl, hr.at_ n a _ h (List.getElem?_eq_getElem hl)⟩
theorem HR.mem_some (hr : HR K ca m s H) (h : a ∈ m) : ∃ n : Nat, m[n]? = some a ∧ ∃ o, s[n]? = some o ∧ OR K ca m H a o := by
  obtain ⟨n, hn⟩ := List.getElem?_of_mem h
  exact ⟨n, hn, hr.some_at hn⟩
theorem HR.mem_ne (hr : HR K ca m s H) (h : a ∈ m) : H a ≠ none := by
  obtain ⟨n, hn, o, ho, r⟩ := hr.mem_some h
  exact r.ne
theorem HR.fresh (hr : HR K ca m s H) (h : H a = none) : a ∉ m := fun z => hr.mem_ne z h
/-- a new thing that is no object of ours (a tuple, an own dict) -/
theorem HR.free (hr : HR K ca m s H) {p : Addr} {u : HO} (hp : H p = none) : HR K ca m s (upd H p u) ∧ Ext K m H m (upd H p u) := by
  have hpm := hr.fresh hp
  have x : Ext K m H m (upd H p u) := ⟨⟨fun _ _ h => h, fun b xs h => sqT_upd (fun xs o => Wr.tup (.inl hp) xs o) h, fun b xs h => sqF_upd (fun xs o => Wr.frz (.inl hp) xs o) h⟩, fun b o h nb => ⟨by rw [upd_ne (ne_of_none h hp)]; exact h, nb⟩, fun _ _ _ h => frz_upd (.inl hp) h⟩
  refine ⟨⟨hr.len, hr.nd, fun n a o h1 h2 => (hr.at_ n a o h1 h2).mono x.toLe ?_⟩, x⟩
  exact upd_ne fun e => hpm (e ▸ List.mem_of_getElem? h1)
/-- a thing that lies already, of ours from here on -/
theorem le_more {p : Addr} : Le K m H (m ++ [p]) H := ⟨fun n a h => by rw [List.getElem?_append_left (List.getElem?_eq_some_iff.mp h).1]; exact h, fun _ _ h => h, fun _ _ h => h⟩
theorem HR.adopt (hr : HR K ca m s H) {p : Addr} (hpm : p ∉ m) (ho : OR K ca (m ++ [p]) H p o) : HR K ca (m ++ [p]) (s ++ [o]) H := by
  refine ⟨by simp [hr.len], ?_, fun n a u h1 h2 => ?_⟩
  · rw [List.nodup_append]
    exact ⟨hr.nd, by simp, fun x hx y hy => by simp at hy; subst hy; exact fun e => hpm (e ▸ hx)⟩
  · by_cases hn : n < m.length
    · rw [List.getElem?_append_left hn] at h1
      rw [List.getElem?_append_left (by rw [← hr.len]; exact hn)] at h2
      exact (hr.at_ n a u h1 h2).mono le_more rfl
    · have e : n = m.length := by
        have h3 := (List.getElem?_eq_some_iff.mp h1).1
        simp at h3; omega
      subst e
      rw [List.getElem?_append_right (Nat.le_refl _)] at h1
      rw [hr.len, List.getElem?_append_right (Nat.le_refl _)] at h2
      simp at h1 h2
      subst h1 h2
      exact ho
/-- a new object of ours -/
theorem HR.new (hr : HR K ca m s H) {p : Addr} {u : HO} (hp : H p = none) (ho : OR K ca (m ++ [p]) (upd H p u) p o) : HR K ca (m ++ [p]) (s ++ [o]) (upd H p u) ∧ Ext K m H (m ++ [p]) (upd H p u) := by
  obtain ⟨h1, x⟩ := hr.free (u := u) hp
  refine ⟨h1.adopt (hr.fresh hp) ho, ⟨fun n a h => le_more.pre (H := H) (K := K) n a h, x.tup, x.rol⟩, fun b v h nb => ⟨(x.oth b v h nb).1, ?_⟩, x.frz⟩
  simp only [List.mem_append, List.mem_singleton, not_or]
  exact ⟨nb, ne_of_none h hp⟩
theorem nf_ls {s : S} {n : Nat} {ds : List D} (h : s[n]? = some (.lst ds)) : ∀ o, s[n]? = some o → o.nf = true := fun o e => by rw [h] at e; cases e; rfl
theorem nf_dc {s : S} {n : Nat} {ds : List (Key × D)} (h : s[n]? = some (.dic ds)) : ∀ o, s[n]? = some o → o.nf = true := fun o e => by rw [h] at e; cases e; rfl
theorem nf_dt {s : S} {n : Nat} {ds : List (List Key × D)} (h : s[n]? = some (.dit ds)) : ∀ o, s[n]? = some o → o.nf = true := fun o e => by rw [h] at e; cases e; rfl
theorem nf_in {s : S} {n c : Nat} {fs : List (Str × D)} (h : s[n]? = some (.ins c fs)) : ∀ o, s[n]? = some o → o.nf = true := fun o e => by rw [h] at e; cases e; rfl
theorem OR.nl {K : PySem.W.Frag} {ca : Nat → Addr} {m : List Addr} {H : Hp} {a : Addr} {o : O} (h : OR K ca m H a o) (ob : Obj) (xs : List V) : H a ≠ some (.frz ob (.lst xs)) := by
  cases o with
  | lst ds => obtain ⟨_, e, _⟩ := h; rw [e]; exact nofun
  | dic ds => obtain ⟨_, e, _⟩ := h; rw [e]; exact nofun
  | dit ds => obtain ⟨_, e, _⟩ := h; rw [e]; exact nofun
  | ins c fs => obtain ⟨_, _, e, _⟩ := h; rw [e]; exact nofun
  | exo c => have e : H a = _ := h; rw [e]; exact nofun
  | fzk ds => obtain ⟨_, _, e, _⟩ := h; rw [e]; intro z; injection z with z; injection z with _ z; cases z
  | fzt ds => obtain ⟨_, _, e, _⟩ := h; rw [e]; intro z; injection z with z; injection z with _ z; cases z
/-- an object of ours is written -/
theorem HR.write (hr : HR K ca m s H) {p : Addr} {u : HO} (hn : m[n]? = some p) (ho : Ext K m H m (upd H p u) → OR K ca m (upd H p u) p o) (hf : ∀ o, s[n]? = some o → o.nf = true) : HR K ca m (s.set n o) (upd H p u) ∧ Ext K m H m (upd H p u) := by
  obtain ⟨o0, ho0, r0⟩ := hr.some_at hn
  have w : Wr H p := .inr (r0.mut (hf _ ho0))
  have pm : p ∈ m := List.mem_of_getElem? hn
  have x : Ext K m H m (upd H p u) := ⟨⟨fun _ _ h => h, fun b xs h => sqT_upd (fun xs o => w.tup xs o) h, fun b xs h => sqF_upd (fun xs o => w.frz xs o) h⟩, fun b v h nb => ⟨by rw [upd_ne (by rintro rfl; exact nb pm)]; exact h, nb⟩, fun _ _ _ h => frz_upd w h⟩
  refine ⟨⟨by simp [hr.len], hr.nd, fun j a v h1 h2 => ?_⟩, x⟩
  by_cases e : n = j
  · subst e
    rw [hn] at h1; cases h1
    rw [List.getElem?_set_self (List.getElem?_eq_some_iff.mp ho0).1] at h2
    cases h2
    exact ho x
  · rw [List.getElem?_set_ne e] at h2
    refine (hr.at_ j a v h1 h2).mono x.toLe (upd_ne fun q => ?_)
    subst q
    exact e ((List.getElem_inj hr.nd).mp ((List.getElem?_eq_some_iff.mp hn).2.trans (List.getElem?_eq_some_iff.mp h1).2.symm))
theorem RDs.eq_len {xs : List V} {ds : List D} (r : RDs K m H xs ds) : xs.length = ds.length := r.length
end
end T
set_option Elab.async false
set_option linter.all false
set_option maxRecDepth 100000
set_option maxHeartbeats 2000000
/-! TLb: deeds over abstract data, lifted to the layer's readings. -/
namespace T
open PySem PySem.Spec L2
open PyProof.Rows hiding St
/-- the addresses of the own classes, of the own errors -/
structure Ad where
  ca : Nat → Addr
  ea : Nat → Addr
section
variable {α β υ ω : Type} {K : PySem.W.Frag} {ad : Ad} {W : WX} {σ : St} {m m1 : List Addr} {H H1 : Hp}
def Out (K : PySem.W.Frag) (ad : Ad) (W : WX) (σ : St) (m : List Addr) (H : Hp) (rel : List Addr → Hp → υ → α → Prop) (Q : υ → Hp → Prop) : R α → Prop
  | .ok a s => ∀ m' H' v, Ext K m H m' H' → HR K ad.ca m' s H' → rel m' H' v a → Q v H'
  | .ex c s => ∀ m' H', Ext K m H m' H' → HR K ad.ca m' s H' → W (.ref (ad.ea c)) none σ H'
  | .no => False
theorem Out.shift {rel : List Addr → Hp → υ → α → Prop} {Q : υ → Hp → Prop} {r : R α} (h : Out K ad W σ m H rel Q r) (x : Ext K m H m1 H1) : Out K ad W σ m1 H1 rel Q r := by
  cases r with
  | ok a s => exact fun m' H' v y => h m' H' v (x.trans y)
  | ex c s => exact fun m' H' y => h m' H' (x.trans y)
  | no => exact h
theorem Out.bind {relA : List Addr → Hp → υ → α → Prop} {relB : List Addr → Hp → ω → β → Prop} {Q : ω → Hp → Prop} {Q1 : υ → Hp → Prop} {r : R α} {f : α → S → R β}
    (h : Out K ad W σ m H relB Q (r.bind f)) (k : ∀ a s m1 H1 v, r = .ok a s → Ext K m H m1 H1 → HR K ad.ca m1 s H1 → relA m1 H1 v a → Out K ad W σ m1 H1 relB Q (f a s) → Q1 v H1) : Out K ad W σ m H relA Q1 r := by
  cases r with
  | ok a s => exact fun m' H' v x hr rv => k a s m' H' v rfl x hr rv (Out.shift (by simpa using h) x)
  | ex c s => exact h
  | no => exact h
theorem Out.mono {rel : List Addr → Hp → υ → α → Prop} {Q Q' : υ → Hp → Prop} {r : R α} (h : Out K ad W σ m H rel Q r) (k : ∀ v H, Q v H → Q' v H) : Out K ad W σ m H rel Q' r := by
  cases r with
  | ok a s => exact fun m' H' v x hr rv => k _ _ (h m' H' v x hr rv)
  | ex c s => exact h
  | no => exact h
/-- the slots as they lie -/
structure ER (K : PySem.W.Frag) (m : List Addr) (H : Hp) (σ : St) (env : Env) : Prop where
  len : σ.length = env.length
  at_ : ∀ (i : Nat) (d : D), env[i]? = some (some d) → ∃ v, σ[i]? = some (some v) ∧ RD K m H v d
theorem ER.mono {env : Env} (e : ER K m H σ env) (x : Le K m H m1 H1) : ER K m1 H1 σ env := ⟨e.len, fun i d h => let ⟨v, h1, h2⟩ := e.at_ i d h; ⟨v, h1, h2.mono x⟩⟩
theorem ER.set {env : Env} {v : V} {d : D} {i : Nat} (e : ER K m H σ env) (r : RD K m H v d) : ER K m H (σ.set i (some v)) (env.set i (some d)) := by
  refine ⟨by simp [e.len], fun j d' h => ?_⟩
  by_cases hj : i = j
  · subst hj
    have hl : i < env.length := by
      have := (List.getElem?_eq_some_iff.mp h).1
      simpa using this
    rw [List.getElem?_set_self hl] at h
    cases h
    exact ⟨v, List.getElem?_set_self (by rw [e.len]; exact hl), r⟩
  · rw [List.getElem?_set_ne hj] at h
    rw [List.getElem?_set_ne hj]
    exact e.at_ j d' h
def wipeE (env : Env) : List Nat → Env
  | [] => env
  | v :: vs => (wipeE env vs).set v none
theorem ER.unset {env : Env} {i : Nat} (e : ER K m H σ env) : ER K m H (σ.set i none) (env.set i none) := by
  refine ⟨by simp [e.len], fun j d' h => ?_⟩
  by_cases hj : i = j
  · subst hj
    have hl : i < env.length := by
      have := (List.getElem?_eq_some_iff.mp h).1
      simpa using this
    rw [List.getElem?_set_self hl] at h
    cases h
  · rw [List.getElem?_set_ne hj] at h
    rw [List.getElem?_set_ne hj]
    exact e.at_ j d' h
theorem ER.wipe {env : Env} (e : ER K m H σ env) : ∀ vs : List Nat, ER K m H (wipe σ vs) (wipeE env vs)
  | [] => e
  | v :: vs => (ER.wipe e vs).unset
end
/-- an expression's deed as a reading -/
def LE (K : PySem.W.Frag) (ad : Ad) (W : WX) (f : Env → S → R D) : TE := fun σ H Q => ∃ m s env, HR K ad.ca m s H ∧ ER K m H σ env ∧ Out K ad W σ m H (RD K) Q (f env s)
def LA (K : PySem.W.Frag) (ad : Ad) (W : WX) (f : Env → S → R (List D)) : TA := fun σ H Q => ∃ m s env, HR K ad.ca m s H ∧ ER K m H σ env ∧ Out K ad W σ m H (RDs K) Q (f env s)
def RB (_ : List Addr) (_ : Hp) (b : Bool) (c : Bool) : Prop := b = c
def LT (K : PySem.W.Frag) (ad : Ad) (W : WX) (f : Env → S → R Bool) : TT := fun σ H Q => ∃ m s env, HR K ad.ca m s H ∧ ER K m H σ env ∧ Out K ad W σ m H RB Q (f env s)
/-- deeds by values -/
def L2R (K : PySem.W.Frag) (ad : Ad) (f : D → D → S → Option (D × S)) : R2 := fun x y H Q => ∃ m s d e, HR K ad.ca m s H ∧ RD K m H x d ∧ RD K m H y e ∧ Out K ad (fun _ _ _ _ => False) [] m H (RD K) Q (R.of (f d e s))
def L1R (K : PySem.W.Frag) (ad : Ad) (f : D → S → Option (D × S)) : V → Hp → VK → Prop := fun x H Q => ∃ m s d, HR K ad.ca m s H ∧ RD K m H x d ∧ Out K ad (fun _ _ _ _ => False) [] m H (RD K) Q (R.of (f d s))
def LCR (K : PySem.W.Frag) (ad : Ad) (f : List D → S → Option (D × S)) : List V → Hp → VK → Prop := fun xs H Q => ∃ m s ds, HR K ad.ca m s H ∧ RDs K m H xs ds ∧ Out K ad (fun _ _ _ _ => False) [] m H (RD K) Q (R.of (f ds s))
def LMR (K : PySem.W.Frag) (ad : Ad) (f : D → List D → S → Option (D × S)) : V → List V → Hp → VK → Prop := fun x xs H Q => ∃ m s d ds, HR K ad.ca m s H ∧ RD K m H x d ∧ RDs K m H xs ds ∧ Out K ad (fun _ _ _ _ => False) [] m H (RD K) Q (R.of (f d ds s))
/-- of a deed that raises nothing the wish does not matter -/
theorem Out.of_any {α υ : Type} {K : PySem.W.Frag} {ad : Ad} {W W' : WX} {σ σ' : St} {m : List Addr} {H : Hp} {rel : List Addr → Hp → υ → α → Prop} {Q : υ → Hp → Prop} {o : Option (α × S)} (h : Out K ad W σ m H rel Q (R.of o)) : Out K ad W' σ' m H rel Q (R.of o) := by
  cases o with
  | none => exact h
  | some p => exact h
section
variable {X : Cx} {e a b c : Expr} {pos : Pos} {ad : Ad} {W : WX}
theorem _root_.L2.PE.imp {t t' : TE} (h : PE X e t) (k : ∀ σ H Q, t' σ H Q → t σ H Q) : PE X e t' := ⟨fun pins s σ H Q I q => h.run pins s σ H Q I (k _ _ _ q)⟩
theorem _root_.L2.PT.imp {t t' : TT} (h : PT X e t) (k : ∀ σ H Q, t' σ H Q → t σ H Q) : PT X e t' := ⟨fun pins s σ H Q I q => h.run pins s σ H Q I (k _ _ _ q)⟩
theorem _root_.L2.PA.imp {es : List Expr} {t t' : TA} (h : PA X es t) (k : ∀ σ H Q, t' σ H Q → t σ H Q) : PA X es t' := ⟨fun ps pins s σ H Q I q => h.run ps pins s σ H Q I (k _ _ _ q)⟩
theorem _root_.L2.PS.imp {st : Stmt} {t t' : TS} (h : PS X st t) (k : ∀ D σ H, t' D σ H → t D σ H) : PS X st t' := ⟨fun pins s σ H D I q => h.run pins s σ H D I (k _ _ _ q)⟩
theorem _root_.L2.PSs.imp {st : List Stmt} {t t' : TS} (h : PSs X st t) (k : ∀ D σ H, t' D σ H → t D σ H) : PSs X st t' := ⟨fun pins s σ H D I q => h.run pins s σ H D I (k _ _ _ q)⟩
theorem _root_.L2.PW.imp {t t' : TT} (h : PW X e t) (k : ∀ σ H Q, t' σ H Q → t σ H Q) : PW X e t' := ⟨fun wh pins s σ H Q I q => h.run wh pins s σ H Q I (k _ _ _ q)⟩
/-- never done -/
theorem le_no : PE X e (LE X.K ad W fun _ _ => .no) := ⟨fun _ _ _ _ _ _ h => by obtain ⟨_, _, _, _, _, z⟩ := h; exact z.elim⟩
def gV (env : Env) (s : S) (i : Nat) : R D := match env[i]? with
  | some (some d) => .ok d s
  | _ => .no
theorem le_var {i : Nat} {x : Str} (hN : X.N[i]? = some x) (hv : Vis X.env.scope x) (hd : (x == ("__debug__" : Str)) = false) (hcd : (x == ("__classdict__" : Str)) = false) : PE X (.Name x pos) (LE X.K ad W fun env s => gV env s i) :=
  (pe_var hN hv hd hcd).imp fun σ H Q ⟨m, s, env, hr, er, h⟩ => by
    unfold gV at h; dsimp only at h
    split at h
    · rename_i d hd
      obtain ⟨v, h1, h2⟩ := er.at_ i d hd
      exact ⟨v, h1, h m H v .refl hr h2⟩
    · exact h.elim
theorem le_c {v : V} {d : D} (h : PE X e (tC v)) (r : ∀ m H, RD X.K m H v d) : PE X e (LE X.K ad W fun _ s => .ok d s) :=
  h.imp fun σ H Q ⟨m, s, env, hr, er, h⟩ => h m H v .refl hr (r m H)
theorem le_op2 {f : D → D → S → Option (D × S)} {fa fb : Env → S → R D} (h : PE X e (tOp (L2R X.K ad f) (LE X.K ad W fa) (LE X.K ad W fb))) :
    PE X e (LE X.K ad W fun env s => (fa env s).bind fun x s1 => (fb env s1).bind fun y s2 => R.of (f x y s2)) :=
  h.imp fun σ H Q ⟨m, s, env, hr, er, h⟩ => ⟨m, s, env, hr, er, h.bind fun x s1 m1 H1 v _ x1 hr1 rv h1 =>
    ⟨m1, s1, env, hr1, er.mono x1.toLe, h1.bind fun y s2 m2 H2 u _ x2 hr2 ru h2 => ⟨m2, s2, x, y, hr2, rv.mono x2.toLe, ru, h2.of_any⟩⟩⟩
theorem le_un {f : D → S → Option (D × S)} {fa : Env → S → R D} (h : PE X e (tUn (L1R X.K ad f) (LE X.K ad W fa))) :
    PE X e (LE X.K ad W fun env s => (fa env s).bind fun x s1 => R.of (f x s1)) :=
  h.imp fun σ H Q ⟨m, s, env, hr, er, h⟩ => ⟨m, s, env, hr, er, h.bind fun x s1 m1 H1 v _ x1 hr1 rv h1 => ⟨m1, s1, x, hr1, rv, h1.of_any⟩⟩
theorem le_cb {f : List D → S → Option (D × S)} {fa : Env → S → R (List D)} (h : PE X e (tCB (LCR X.K ad f) (LA X.K ad W fa))) :
    PE X e (LE X.K ad W fun env s => (fa env s).bind fun x s1 => R.of (f x s1)) :=
  h.imp fun σ H Q ⟨m, s, env, hr, er, h⟩ => ⟨m, s, env, hr, er, h.bind fun x s1 m1 H1 v _ x1 hr1 rv h1 => ⟨m1, s1, x, hr1, rv, h1.of_any⟩⟩
theorem la_nil : PA X [] (LA X.K ad W fun _ s => .ok [] s) := pa_nil.imp fun σ H Q ⟨m, s, env, hr, er, h⟩ => h m H [] .refl hr .nil
theorem la_cons {es : List Expr} {fa : Env → S → R D} {fr : Env → S → R (List D)} (ha : PE X e (LE X.K ad W fa)) (hb : PA X es (LA X.K ad W fr)) (hs : starEach (e :: es) X.env = (false, eval e X.env) :: starEach es X.env) :
    PA X (e :: es) (LA X.K ad W fun env s => (fa env s).bind fun x s1 => (fr env s1).bind fun xs s2 => .ok (x :: xs) s2) :=
  (pa_cons ha hb hs).imp fun σ H Q ⟨m, s, env, hr, er, h⟩ => ⟨m, s, env, hr, er, h.bind fun x s1 m1 H1 v _ x1 hr1 rv h1 =>
    ⟨m1, s1, env, hr1, er.mono x1.toLe, h1.bind fun y s2 m2 H2 u _ x2 hr2 ru h2 => h2 m2 H2 _ .refl hr2 (.cons (rv.mono x2.toLe) ru)⟩⟩
/-- a display -/
def mkT (ds : List D) (s : S) : Option (D × S) := if ds.length ≤ 1000000 then some (.tup ds, s) else none
def mkL (ds : List D) (s : S) : Option (D × S) := if ds.length ≤ 1000000 then some (.ref s.length, s ++ [.lst ds]) else none
theorem lim {n : Nat} (h : n ≤ 1000000) : n ≤ sizeLine := by have := sizeLine_eq; omega
theorem new_tup {K : PySem.W.Frag} {W : WX} {σ : St} {m : List Addr} {H : Hp} {s : S} {ds : List D} {vs : List V} {Q : VK} (hr : HR K ad.ca m s H) (r : RDs K m H vs ds) (h : Out K ad W σ m H (RD K) Q (.ok (.tup ds) s)) :
    ∀ p, H p = none → Q (.ref p) (upd H p (.tup vs)) := fun p hp => by
  obtain ⟨h1, x⟩ := hr.free (u := .tup vs) hp
  exact h m _ _ x h1 (.tup (.inl (.inl upd_same)) (r.mono x.toLe))
theorem new_lst {K : PySem.W.Frag} {W : WX} {σ : St} {m : List Addr} {H : Hp} {s : S} {ds : List D} {vs : List V} {Q : VK} (hr : HR K ad.ca m s H) (r : RDs K m H vs ds) (h : Out K ad W σ m H (RD K) Q (.ok (.ref s.length) (s ++ [.lst ds]))) :
    ∀ p, H p = none → Q (.ref p) (upd H p (.lst vs)) := fun p hp => by
  have x0 := (hr.free (u := .lst vs) hp).2
  obtain ⟨h1, x⟩ := hr.new (u := .lst vs) (o := .lst ds) hp ⟨vs, upd_same, (r.mono x0.toLe).mono le_more⟩
  refine h _ _ _ x h1 (.ref ?_)
  rw [← hr.len, List.getElem?_append_right (Nat.le_refl _)]
  simp
theorem le_tup {es : List Expr} {k : Nat} {fa : Env → S → R (List D)} (h : PA X es (LA X.K ad W fa)) : PE X (.Tuple es k pos) (LE X.K ad W fun env s => (fa env s).bind fun x s1 => R.of (mkT x s1)) :=
  (pe_tup h).imp fun σ H Q ⟨m, s, env, hr, er, h⟩ => ⟨m, s, env, hr, er, h.bind fun x s1 m1 H1 v _ x1 hr1 rv h1 => by
    unfold mkT at h1
    split at h1
    · rename_i hl
      exact ⟨by rw [rv.length]; exact lim hl, new_tup hr1 rv h1⟩
    · exact h1.elim⟩
theorem le_lst {es : List Expr} {fa : Env → S → R (List D)} (h : PA X es (LA X.K ad W fa)) : PE X (.List es pos) (LE X.K ad W fun env s => (fa env s).bind fun x s1 => R.of (mkL x s1)) :=
  (pe_lst h).imp fun σ H Q ⟨m, s, env, hr, er, h⟩ => ⟨m, s, env, hr, er, h.bind fun x s1 m1 H1 v _ x1 hr1 rv h1 => by
    unfold mkL at h1
    split at h1
    · rename_i hl
      exact ⟨by rw [rv.length]; exact lim hl, new_lst hr1 rv h1⟩
    · exact h1.elim⟩
/-- tests -/
theorem lt_val {fa : Env → S → R D} (h : PE X e (LE X.K ad W fa)) (he : ∀ whole, isTrue e X.env whole = (do let v ← whole; standAt e.pos; holding [v] (truthy v))) :
    PT X e (LT X.K ad W fun env s => (fa env s).bind fun x s1 => match x with | .bl b => .ok b s1 | _ => .no) :=
  (pt_val h he).imp fun σ H Q ⟨m, s, env, hr, er, h⟩ => ⟨m, s, env, hr, er, h.bind fun x s1 m1 H1 v _ x1 hr1 rv h1 => by
    split at h1
    · cases rv; exact ⟨_, rfl, h1 m1 H1 _ .refl hr1 rfl⟩
    · exact h1.elim⟩
theorem lt_cmp {op : CmpOp} {f : D → D → S → Option (D × S)} {fa fb : Env → S → R D} (h : OpR X (compareOp op) (L2R X.K ad f)) (ha : PE X a (LE X.K ad W fa)) (hb : PE X b (LE X.K ad W fb)) (hm : behindInMarks op b = false) :
    PT X (.Compare a [op] [b] pos) (LT X.K ad W fun env s => (fa env s).bind fun x s1 => (fb env s1).bind fun y s2 => (R.of (f x y s2)).bind fun z s3 => match z with | .bl b => .ok b s3 | _ => .no) :=
  (pt_cmpR h ha hb hm).imp fun σ H Q ⟨m, s, env, hr, er, h⟩ => ⟨m, s, env, hr, er, h.bind fun x s1 m1 H1 v _ x1 hr1 rv h1 =>
    ⟨m1, s1, env, hr1, er.mono x1.toLe, h1.bind fun y s2 m2 H2 u _ x2 hr2 ru h2 => ⟨m2, s2, x, y, hr2, rv.mono x2.toLe, ru, (h2.bind fun z s3 m3 H3 w _ x3 hr3 rw h3 => by
      split at h3
      · cases rw; exact ⟨_, rfl, h3 m3 H3 _ .refl hr3 rfl⟩
      · exact h3.elim : Out _ _ _ _ _ _ (RD X.K) _ _).of_any⟩⟩⟩
theorem lt_not {fa : Env → S → R Bool} (h : PT X a (LT X.K ad W fa)) : PT X (.UnaryOp .Not a pos) (LT X.K ad W fun env s => (fa env s).bind fun b s1 => .ok (!b) s1) :=
  (pt_not h).imp fun σ H Q ⟨m, s, env, hr, er, h⟩ => ⟨m, s, env, hr, er, h.bind fun x s1 m1 H1 v _ x1 hr1 rv h1 => by
    cases rv; exact h1 m1 H1 _ .refl hr1 rfl⟩
theorem lw_one {op : BoolOp} {fa : Env → S → R Bool} (h : PT X a (LT X.K ad W fa)) : PW X (.BoolOp op [a] pos) (LT X.K ad W fa) := by
  cases op with
  | And => exact pw_and1 h
  | Or => exact pw_or1 h
theorem lw_and {rest : List Expr} {fa fb : Env → S → R Bool} (ha : PT X a (LT X.K ad W fa)) (hb : PW X (.BoolOp .And (b :: rest) pos) (LT X.K ad W fb)) :
    PW X (.BoolOp .And (a :: b :: rest) pos) (LT X.K ad W fun env s => (fa env s).bind fun x s1 => if x then fb env s1 else .ok false s1) :=
  (pw_and ha hb).imp fun σ H Q ⟨m, s, env, hr, er, h⟩ => ⟨m, s, env, hr, er, h.bind fun x s1 m1 H1 v _ x1 hr1 rv h1 => by
    cases rv
    cases x with
    | true => exact ⟨m1, s1, env, hr1, er.mono x1.toLe, h1⟩
    | false => exact h1 m1 H1 _ .refl hr1 rfl⟩
theorem lw_or {rest : List Expr} {fa fb : Env → S → R Bool} (ha : PT X a (LT X.K ad W fa)) (hb : PW X (.BoolOp .Or (b :: rest) pos) (LT X.K ad W fb)) :
    PW X (.BoolOp .Or (a :: b :: rest) pos) (LT X.K ad W fun env s => (fa env s).bind fun x s1 => if x then .ok true s1 else fb env s1) :=
  (pw_or ha hb).imp fun σ H Q ⟨m, s, env, hr, er, h⟩ => ⟨m, s, env, hr, er, h.bind fun x s1 m1 H1 v _ x1 hr1 rv h1 => by
    cases rv
    cases x with
    | false => exact ⟨m1, s1, env, hr1, er.mono x1.toLe, h1⟩
    | true => exact h1 m1 H1 _ .refl hr1 rfl⟩
theorem le_ite {fc : Env → S → R Bool} {fa fb : Env → S → R D} (hc : PT X c (LT X.K ad W fc)) (ha : PE X a (LE X.K ad W fa)) (hb : PE X b (LE X.K ad W fb)) :
    PE X (.IfExp c a b pos) (LE X.K ad W fun env s => (fc env s).bind fun x s1 => if x then fa env s1 else fb env s1) :=
  (pe_ifExp hc ha hb).imp fun σ H Q ⟨m, s, env, hr, er, h⟩ => ⟨m, s, env, hr, er, h.bind fun x s1 m1 H1 v _ x1 hr1 rv h1 => by
    cases rv
    cases x with
    | true => exact ⟨m1, s1, env, hr1, er.mono x1.toLe, h1⟩
    | false => exact ⟨m1, s1, env, hr1, er.mono x1.toLe, h1⟩⟩
/-- and, or, not as values -/
theorem le_one {op : BoolOp} {fa : Env → S → R D} (h : PE X a (LE X.K ad W fa)) : PE X (.BoolOp op [a] pos) (LE X.K ad W fa) := pe_one h
theorem le_and {rest : List Expr} {fa fb : Env → S → R D} (ha : PE X a (LE X.K ad W fa)) (hb : PE X (.BoolOp .And (b :: rest) pos) (LE X.K ad W fb)) :
    PE X (.BoolOp .And (a :: b :: rest) pos) (LE X.K ad W fun env s => (fa env s).bind fun x s1 => match x with | .bl true => fb env s1 | .bl false => .ok (.bl false) s1 | _ => .no) :=
  (pe_and ha hb).imp fun σ H Q ⟨m, s, env, hr, er, h⟩ => ⟨m, s, env, hr, er, h.bind fun x s1 m1 H1 v _ x1 hr1 rv h1 => by
    split at h1
    · cases rv; exact ⟨_, rfl, m1, s1, env, hr1, er.mono x1.toLe, h1⟩
    · cases rv; exact ⟨_, rfl, h1 m1 H1 _ .refl hr1 (.bl _)⟩
    · exact h1.elim⟩
theorem le_or {rest : List Expr} {fa fb : Env → S → R D} (ha : PE X a (LE X.K ad W fa)) (hb : PE X (.BoolOp .Or (b :: rest) pos) (LE X.K ad W fb)) :
    PE X (.BoolOp .Or (a :: b :: rest) pos) (LE X.K ad W fun env s => (fa env s).bind fun x s1 => match x with | .bl true => .ok (.bl true) s1 | .bl false => fb env s1 | _ => .no) :=
  (pe_or ha hb).imp fun σ H Q ⟨m, s, env, hr, er, h⟩ => ⟨m, s, env, hr, er, h.bind fun x s1 m1 H1 v _ x1 hr1 rv h1 => by
    split at h1
    · cases rv; exact ⟨_, rfl, h1 m1 H1 _ .refl hr1 (.bl _)⟩
    · cases rv; exact ⟨_, rfl, m1, s1, env, hr1, er.mono x1.toLe, h1⟩
    · exact h1.elim⟩
theorem le_not {fa : Env → S → R D} (h : PE X a (LE X.K ad W fa)) : PE X (.UnaryOp .Not a pos) (LE X.K ad W fun env s => (fa env s).bind fun x s1 => match x with | .bl b => .ok (.bl (!b)) s1 | _ => .no) :=
  (pe_not h).imp fun σ H Q ⟨m, s, env, hr, er, h⟩ => ⟨m, s, env, hr, er, h.bind fun x s1 m1 H1 v _ x1 hr1 rv h1 => by
    split at h1
    · cases rv; exact ⟨_, rfl, h1 m1 H1 _ .refl hr1 (.bl _)⟩
    · exact h1.elim⟩
end
end T
set_option Elab.async false
set_option linter.all false
set_option maxRecDepth 100000
set_option maxHeartbeats 4000000
/-! TLv (printed by gen_dict.py): a dict is unlike what is none. -/
namespace T
open PySem PySem.Spec L2
open PySem.SeqAt
open PyProof.Rows hiding St
def IsD (h : Heap) (l : Addr) : Prop := ∃ (o : Obj) (es : Array DictEntry) (ep : Nat), h.get? l = some o ∧ o.cls = .type "dict" ∧ o.data = .dict es ep
theorem d_eq_none (l : Addr) (es : Array DictEntry) (ep : Nat) (dd : Option Addr) (sl : Array (Option Value)) : Meets (Builtin.«dict.__eq__» ⟨[.ref l, .none], []⟩) (fun _ R s => s.heap.get? l = some { cls := .type "dict", dict := dd, data := .dict es ep, slots := sl } ∧ R (.ok (.ret .notImplemented)) s) :=
  .of_wp fun prog w A R st hh => by obtain ⟨hp, g, d, tk, os⟩ := st; obtain ⟨hl, hh⟩ := hh; have sub := F.sub_NoneType_dict; wp_walk using wpAny_loadPart' hl, wpAny_load hl; exact ⟨_, rfl, hh⟩
theorem d_eq_bool (l : Addr) (es : Array DictEntry) (ep : Nat) (dd : Option Addr) (sl : Array (Option Value)) (b : Bool) : Meets (Builtin.«dict.__eq__» ⟨[.ref l, .bool b], []⟩) (fun _ R s => s.heap.get? l = some { cls := .type "dict", dict := dd, data := .dict es ep, slots := sl } ∧ R (.ok (.ret .notImplemented)) s) :=
  .of_wp fun prog w A R st hh => by obtain ⟨hp, g, d, tk, os⟩ := st; obtain ⟨hl, hh⟩ := hh; have sub := F.sub_bool_dict; wp_walk using wpAny_loadPart' hl, wpAny_load hl; exact ⟨_, rfl, hh⟩
theorem bool_eq_d (b : Bool) (l : Addr) (es : Array DictEntry) (ep : Nat) (dd : Option Addr) (sl : Array (Option Value)) : Meets (Builtin.«int.__eq__» ⟨[.bool b, .ref l], []⟩) (fun _ R s => s.heap.get? l = some { cls := .type "dict", dict := dd, data := .dict es ep, slots := sl } ∧ R (.ok (.ret .notImplemented)) s) :=
  .of_wp fun prog w A R st hh => by obtain ⟨hp, g, d, tk, os⟩ := st; obtain ⟨hl, hh⟩ := hh; have sub := F.sub_dict_int; wp_walk using wpAny_loadPart' hl, wpAny_load hl; exact ⟨_, rfl, hh⟩
theorem d_eq_int (l : Addr) (es : Array DictEntry) (ep : Nat) (dd : Option Addr) (sl : Array (Option Value)) (b : Int) (u : Tok) : Meets (Builtin.«dict.__eq__» ⟨[.ref l, .int b u], []⟩) (fun _ R s => s.heap.get? l = some { cls := .type "dict", dict := dd, data := .dict es ep, slots := sl } ∧ R (.ok (.ret .notImplemented)) s) :=
  .of_wp fun prog w A R st hh => by obtain ⟨hp, g, d, tk, os⟩ := st; obtain ⟨hl, hh⟩ := hh; have sub := F.sub_int_dict; wp_walk using wpAny_loadPart' hl, wpAny_load hl; exact ⟨_, rfl, hh⟩
theorem int_eq_d (b : Int) (u : Tok) (l : Addr) (es : Array DictEntry) (ep : Nat) (dd : Option Addr) (sl : Array (Option Value)) : Meets (Builtin.«int.__eq__» ⟨[.int b u, .ref l], []⟩) (fun _ R s => s.heap.get? l = some { cls := .type "dict", dict := dd, data := .dict es ep, slots := sl } ∧ R (.ok (.ret .notImplemented)) s) :=
  .of_wp fun prog w A R st hh => by obtain ⟨hp, g, d, tk, os⟩ := st; obtain ⟨hl, hh⟩ := hh; have sub := F.sub_dict_int; wp_walk using wpAny_loadPart' hl, wpAny_load hl; exact ⟨_, rfl, hh⟩
theorem d_eq_str (l : Addr) (es : Array DictEntry) (ep : Nat) (dd : Option Addr) (sl : Array (Option Value)) (b : Str) (u : Tok) : Meets (Builtin.«dict.__eq__» ⟨[.ref l, .str b u], []⟩) (fun _ R s => s.heap.get? l = some { cls := .type "dict", dict := dd, data := .dict es ep, slots := sl } ∧ R (.ok (.ret .notImplemented)) s) :=
  .of_wp fun prog w A R st hh => by obtain ⟨hp, g, d, tk, os⟩ := st; obtain ⟨hl, hh⟩ := hh; have sub := F.sub_str_dict; wp_walk using wpAny_loadPart' hl, wpAny_load hl; exact ⟨_, rfl, hh⟩
theorem str_eq_d (b : Str) (u : Tok) (l : Addr) (es : Array DictEntry) (ep : Nat) (dd : Option Addr) (sl : Array (Option Value)) : Meets (Builtin.«str.__eq__» ⟨[.str b u, .ref l], []⟩) (fun _ R s => s.heap.get? l = some { cls := .type "dict", dict := dd, data := .dict es ep, slots := sl } ∧ R (.ok (.ret .notImplemented)) s) :=
  .of_wp fun prog w A R st hh => by obtain ⟨hp, g, d, tk, os⟩ := st; obtain ⟨hl, hh⟩ := hh; have sub := F.sub_dict_str; wp_walk using wpAny_loadPart' hl, wpAny_load hl; exact ⟨_, rfl, hh⟩
theorem d_eq_list (l : Addr) (es : Array DictEntry) (ep : Nat) (dd : Option Addr) (sl : Array (Option Value)) (b : Addr) (its : Array Value) (n : Nat) (d2 : Option Addr) (s2 : Array (Option Value)) : Meets (Builtin.«dict.__eq__» ⟨[.ref l, .ref b], []⟩) (fun _ R s => s.heap.get? l = some { cls := .type "dict", dict := dd, data := .dict es ep, slots := sl } ∧ s.heap.get? b = some { cls := .type "list", dict := d2, data := .seq its n, slots := s2 } ∧ R (.ok (.ret .notImplemented)) s) :=
  .of_wp fun prog w A R st hh => by obtain ⟨hp, g, d, tk, os⟩ := st; obtain ⟨hl, hb, hh⟩ := hh; have sub := F.sub_list_dict; wp_walk using wpAny_loadPart' hl, wpAny_loadPart' hb, wpAny_load hl, wpAny_load hb; exact ⟨_, rfl, hh⟩
theorem list_eq_d (b : Addr) (its : Array Value) (n : Nat) (d2 : Option Addr) (s2 : Array (Option Value)) (l : Addr) (es : Array DictEntry) (ep : Nat) (dd : Option Addr) (sl : Array (Option Value)) : Meets (Builtin.«list.__eq__» ⟨[.ref b, .ref l], []⟩) (fun _ R s => s.heap.get? l = some { cls := .type "dict", dict := dd, data := .dict es ep, slots := sl } ∧ s.heap.get? b = some { cls := .type "list", dict := d2, data := .seq its n, slots := s2 } ∧ R (.ok (.ret .notImplemented)) s) :=
  .of_wp fun prog w A R st hh => by obtain ⟨hp, g, d, tk, os⟩ := st; obtain ⟨hl, hb, hh⟩ := hh; have sub := F.sub_dict_list; wp_walk using wpAny_loadPart' hl, wpAny_loadPart' hb, wpAny_load hl, wpAny_load hb; exact ⟨_, rfl, hh⟩
theorem d_eq_tuple (l : Addr) (es : Array DictEntry) (ep : Nat) (dd : Option Addr) (sl : Array (Option Value)) (b : Addr) (its : Array Value) (n : Nat) (d2 : Option Addr) (s2 : Array (Option Value)) : Meets (Builtin.«dict.__eq__» ⟨[.ref l, .ref b], []⟩) (fun _ R s => s.heap.get? l = some { cls := .type "dict", dict := dd, data := .dict es ep, slots := sl } ∧ s.heap.get? b = some { cls := .type "tuple", dict := d2, data := .seq its n, slots := s2 } ∧ R (.ok (.ret .notImplemented)) s) :=
  .of_wp fun prog w A R st hh => by obtain ⟨hp, g, d, tk, os⟩ := st; obtain ⟨hl, hb, hh⟩ := hh; have sub := F.sub_tuple_dict; wp_walk using wpAny_loadPart' hl, wpAny_loadPart' hb, wpAny_load hl, wpAny_load hb; exact ⟨_, rfl, hh⟩
theorem tuple_eq_d (b : Addr) (its : Array Value) (n : Nat) (d2 : Option Addr) (s2 : Array (Option Value)) (l : Addr) (es : Array DictEntry) (ep : Nat) (dd : Option Addr) (sl : Array (Option Value)) : Meets (Builtin.«tuple.__eq__» ⟨[.ref b, .ref l], []⟩) (fun _ R s => s.heap.get? l = some { cls := .type "dict", dict := dd, data := .dict es ep, slots := sl } ∧ s.heap.get? b = some { cls := .type "tuple", dict := d2, data := .seq its n, slots := s2 } ∧ R (.ok (.ret .notImplemented)) s) :=
  .of_wp fun prog w A R st hh => by obtain ⟨hp, g, d, tk, os⟩ := st; obtain ⟨hl, hb, hh⟩ := hh; have sub := F.sub_dict_tuple; wp_walk using wpAny_loadPart' hl, wpAny_loadPart' hb, wpAny_load hl, wpAny_load hb; exact ⟨_, rfl, hh⟩
theorem d_ne_none (l : Addr) (es : Array DictEntry) (ep : Nat) (dd : Option Addr) (sl : Array (Option Value)) : Meets (Builtin.«dict.__ne__» ⟨[.ref l, .none], []⟩) (fun _ R s => s.heap.get? l = some { cls := .type "dict", dict := dd, data := .dict es ep, slots := sl } ∧ R (.ok (.ret .notImplemented)) s) :=
  .of_wp fun prog w A R st hh => by obtain ⟨hp, g, d, tk, os⟩ := st; obtain ⟨hl, hh⟩ := hh; have sub := F.sub_NoneType_dict; wp_walk using wpAny_loadPart' hl, wpAny_load hl; exact ⟨_, rfl, hh⟩
theorem d_ne_bool (l : Addr) (es : Array DictEntry) (ep : Nat) (dd : Option Addr) (sl : Array (Option Value)) (b : Bool) : Meets (Builtin.«dict.__ne__» ⟨[.ref l, .bool b], []⟩) (fun _ R s => s.heap.get? l = some { cls := .type "dict", dict := dd, data := .dict es ep, slots := sl } ∧ R (.ok (.ret .notImplemented)) s) :=
  .of_wp fun prog w A R st hh => by obtain ⟨hp, g, d, tk, os⟩ := st; obtain ⟨hl, hh⟩ := hh; have sub := F.sub_bool_dict; wp_walk using wpAny_loadPart' hl, wpAny_load hl; exact ⟨_, rfl, hh⟩
theorem bool_ne_d (b : Bool) (l : Addr) (es : Array DictEntry) (ep : Nat) (dd : Option Addr) (sl : Array (Option Value)) : Meets (Builtin.«int.__ne__» ⟨[.bool b, .ref l], []⟩) (fun _ R s => s.heap.get? l = some { cls := .type "dict", dict := dd, data := .dict es ep, slots := sl } ∧ R (.ok (.ret .notImplemented)) s) :=
  .of_wp fun prog w A R st hh => by obtain ⟨hp, g, d, tk, os⟩ := st; obtain ⟨hl, hh⟩ := hh; have sub := F.sub_dict_int; wp_walk using wpAny_loadPart' hl, wpAny_load hl; exact ⟨_, rfl, hh⟩
theorem d_ne_int (l : Addr) (es : Array DictEntry) (ep : Nat) (dd : Option Addr) (sl : Array (Option Value)) (b : Int) (u : Tok) : Meets (Builtin.«dict.__ne__» ⟨[.ref l, .int b u], []⟩) (fun _ R s => s.heap.get? l = some { cls := .type "dict", dict := dd, data := .dict es ep, slots := sl } ∧ R (.ok (.ret .notImplemented)) s) :=
  .of_wp fun prog w A R st hh => by obtain ⟨hp, g, d, tk, os⟩ := st; obtain ⟨hl, hh⟩ := hh; have sub := F.sub_int_dict; wp_walk using wpAny_loadPart' hl, wpAny_load hl; exact ⟨_, rfl, hh⟩
theorem int_ne_d (b : Int) (u : Tok) (l : Addr) (es : Array DictEntry) (ep : Nat) (dd : Option Addr) (sl : Array (Option Value)) : Meets (Builtin.«int.__ne__» ⟨[.int b u, .ref l], []⟩) (fun _ R s => s.heap.get? l = some { cls := .type "dict", dict := dd, data := .dict es ep, slots := sl } ∧ R (.ok (.ret .notImplemented)) s) :=
  .of_wp fun prog w A R st hh => by obtain ⟨hp, g, d, tk, os⟩ := st; obtain ⟨hl, hh⟩ := hh; have sub := F.sub_dict_int; wp_walk using wpAny_loadPart' hl, wpAny_load hl; exact ⟨_, rfl, hh⟩
theorem d_ne_str (l : Addr) (es : Array DictEntry) (ep : Nat) (dd : Option Addr) (sl : Array (Option Value)) (b : Str) (u : Tok) : Meets (Builtin.«dict.__ne__» ⟨[.ref l, .str b u], []⟩) (fun _ R s => s.heap.get? l = some { cls := .type "dict", dict := dd, data := .dict es ep, slots := sl } ∧ R (.ok (.ret .notImplemented)) s) :=
  .of_wp fun prog w A R st hh => by obtain ⟨hp, g, d, tk, os⟩ := st; obtain ⟨hl, hh⟩ := hh; have sub := F.sub_str_dict; wp_walk using wpAny_loadPart' hl, wpAny_load hl; exact ⟨_, rfl, hh⟩
theorem str_ne_d (b : Str) (u : Tok) (l : Addr) (es : Array DictEntry) (ep : Nat) (dd : Option Addr) (sl : Array (Option Value)) : Meets (Builtin.«str.__ne__» ⟨[.str b u, .ref l], []⟩) (fun _ R s => s.heap.get? l = some { cls := .type "dict", dict := dd, data := .dict es ep, slots := sl } ∧ R (.ok (.ret .notImplemented)) s) :=
  .of_wp fun prog w A R st hh => by obtain ⟨hp, g, d, tk, os⟩ := st; obtain ⟨hl, hh⟩ := hh; have sub := F.sub_dict_str; wp_walk using wpAny_loadPart' hl, wpAny_load hl; exact ⟨_, rfl, hh⟩
theorem d_ne_list (l : Addr) (es : Array DictEntry) (ep : Nat) (dd : Option Addr) (sl : Array (Option Value)) (b : Addr) (its : Array Value) (n : Nat) (d2 : Option Addr) (s2 : Array (Option Value)) : Meets (Builtin.«dict.__ne__» ⟨[.ref l, .ref b], []⟩) (fun _ R s => s.heap.get? l = some { cls := .type "dict", dict := dd, data := .dict es ep, slots := sl } ∧ s.heap.get? b = some { cls := .type "list", dict := d2, data := .seq its n, slots := s2 } ∧ R (.ok (.ret .notImplemented)) s) :=
  .of_wp fun prog w A R st hh => by obtain ⟨hp, g, d, tk, os⟩ := st; obtain ⟨hl, hb, hh⟩ := hh; have sub := F.sub_list_dict; wp_walk using wpAny_loadPart' hl, wpAny_loadPart' hb, wpAny_load hl, wpAny_load hb; exact ⟨_, rfl, hh⟩
theorem list_ne_d (b : Addr) (its : Array Value) (n : Nat) (d2 : Option Addr) (s2 : Array (Option Value)) (l : Addr) (es : Array DictEntry) (ep : Nat) (dd : Option Addr) (sl : Array (Option Value)) : Meets (Builtin.«list.__ne__» ⟨[.ref b, .ref l], []⟩) (fun _ R s => s.heap.get? l = some { cls := .type "dict", dict := dd, data := .dict es ep, slots := sl } ∧ s.heap.get? b = some { cls := .type "list", dict := d2, data := .seq its n, slots := s2 } ∧ R (.ok (.ret .notImplemented)) s) :=
  .of_wp fun prog w A R st hh => by obtain ⟨hp, g, d, tk, os⟩ := st; obtain ⟨hl, hb, hh⟩ := hh; have sub := F.sub_dict_list; wp_walk using wpAny_loadPart' hl, wpAny_loadPart' hb, wpAny_load hl, wpAny_load hb; exact ⟨_, rfl, hh⟩
theorem d_ne_tuple (l : Addr) (es : Array DictEntry) (ep : Nat) (dd : Option Addr) (sl : Array (Option Value)) (b : Addr) (its : Array Value) (n : Nat) (d2 : Option Addr) (s2 : Array (Option Value)) : Meets (Builtin.«dict.__ne__» ⟨[.ref l, .ref b], []⟩) (fun _ R s => s.heap.get? l = some { cls := .type "dict", dict := dd, data := .dict es ep, slots := sl } ∧ s.heap.get? b = some { cls := .type "tuple", dict := d2, data := .seq its n, slots := s2 } ∧ R (.ok (.ret .notImplemented)) s) :=
  .of_wp fun prog w A R st hh => by obtain ⟨hp, g, d, tk, os⟩ := st; obtain ⟨hl, hb, hh⟩ := hh; have sub := F.sub_tuple_dict; wp_walk using wpAny_loadPart' hl, wpAny_loadPart' hb, wpAny_load hl, wpAny_load hb; exact ⟨_, rfl, hh⟩
theorem tuple_ne_d (b : Addr) (its : Array Value) (n : Nat) (d2 : Option Addr) (s2 : Array (Option Value)) (l : Addr) (es : Array DictEntry) (ep : Nat) (dd : Option Addr) (sl : Array (Option Value)) : Meets (Builtin.«tuple.__ne__» ⟨[.ref b, .ref l], []⟩) (fun _ R s => s.heap.get? l = some { cls := .type "dict", dict := dd, data := .dict es ep, slots := sl } ∧ s.heap.get? b = some { cls := .type "tuple", dict := d2, data := .seq its n, slots := s2 } ∧ R (.ok (.ret .notImplemented)) s) :=
  .of_wp fun prog w A R st hh => by obtain ⟨hp, g, d, tk, os⟩ := st; obtain ⟨hl, hb, hh⟩ := hh; have sub := F.sub_dict_tuple; wp_walk using wpAny_loadPart' hl, wpAny_loadPart' hb, wpAny_load hl, wpAny_load hb; exact ⟨_, rfl, hh⟩
section
variable {A : Around} {s : Shared} {l b : Addr} {its : Array Value}
theorem d_ne_seq {c : String} (hc : c ≠ "dict") (hd : IsD s.heap l) (hb : ∃ o, s.heap.get? b = some o ∧ o.cls = .type c) : l ≠ b := fun e => by
  subst e
  obtain ⟨o, _, _, ho, h1, _⟩ := hd
  obtain ⟨o2, ho2, h2⟩ := hb
  rw [ho] at ho2
  cases ho2
  rw [h1] at h2
  cases h2
  exact hc rfl
theorem RcAt_d_none (hd : IsD s.heap l) (hu : A.units < cLine) : RcAt A s (.ref l) (.none) false := fun prog w E Q h => by
  obtain ⟨⟨cls, dd, data, sl⟩, es, ep, ho, h1, h2⟩ := hd
  simp only at h1 h2
  subst h1 h2
  exact rc_eq_decline_or (k := false) ⟨_, ho, rfl⟩ rfl (by decide) F.sub_NoneType_dict F.slot_dict_eq F.slot_NoneType_eq_refl
    (fun _ hq => call_meets F.slot_dict_eq ⟨_, ho, rfl⟩ F.entry_dict_eq (F.args_dict_eq_2 _ _) (d_eq_none l es ep dd sl) ⟨ho, hq⟩) (fun _ hq => call_gives F.slot_NoneType_eq_refl rfl F.entry_NoneType_eq (F.args_NoneType_eq_2 _ _) (NoneType___eq___none_ref_0 l) hq)
    (fun _ hq => wpAny_of_eq (rfl : isSame (.ref l) (.none) = pure false) hq) (.inr hu) h
theorem RcAt_none_d (hd : IsD s.heap l) (hu : A.units < cLine) : RcAt A s (.none) (.ref l) false := fun prog w E Q h => by
  obtain ⟨⟨cls, dd, data, sl⟩, es, ep, ho, h1, h2⟩ := hd
  simp only at h1 h2
  subst h1 h2
  exact rc_eq_decline_or (k := false) rfl ⟨_, ho, rfl⟩ (by decide) F.sub_dict_NoneType F.slot_NoneType_eq F.slot_dict_eq_refl
    (fun _ hq => call_gives F.slot_NoneType_eq rfl F.entry_NoneType_eq (F.args_NoneType_eq_2 _ _) (NoneType___eq___none_ref_0 l) hq) (fun _ hq => call_meets F.slot_dict_eq_refl ⟨_, ho, rfl⟩ F.entry_dict_eq (F.args_dict_eq_2 _ _) (d_eq_none l es ep dd sl) ⟨ho, hq⟩)
    (fun _ hq => wpAny_of_eq (rfl : isSame (.none) (.ref l) = pure false) hq) (.inr hu) h
theorem RcAt_d_bool (b : Bool) (hd : IsD s.heap l) (hu : A.units < cLine) : RcAt A s (.ref l) (.bool b) false := fun prog w E Q h => by
  obtain ⟨⟨cls, dd, data, sl⟩, es, ep, ho, h1, h2⟩ := hd
  simp only at h1 h2
  subst h1 h2
  exact rc_eq_decline_or (k := false) ⟨_, ho, rfl⟩ rfl (by decide) F.sub_bool_dict F.slot_dict_eq F.slot_bool_eq_refl
    (fun _ hq => call_meets F.slot_dict_eq ⟨_, ho, rfl⟩ F.entry_dict_eq (F.args_dict_eq_2 _ _) (d_eq_bool l es ep dd sl b) ⟨ho, hq⟩) (fun _ hq => call_meets F.slot_bool_eq_refl rfl F.entry_int_eq (F.args_int_eq_2 _ _) (bool_eq_d b l es ep dd sl) ⟨ho, hq⟩)
    (fun _ hq => wpAny_of_eq (rfl : isSame (.ref l) (.bool b) = pure false) hq) (.inr hu) h
theorem RcAt_bool_d (b : Bool) (hd : IsD s.heap l) (hu : A.units < cLine) : RcAt A s (.bool b) (.ref l) false := fun prog w E Q h => by
  obtain ⟨⟨cls, dd, data, sl⟩, es, ep, ho, h1, h2⟩ := hd
  simp only at h1 h2
  subst h1 h2
  exact rc_eq_decline_or (k := false) rfl ⟨_, ho, rfl⟩ (by decide) F.sub_dict_bool F.slot_bool_eq F.slot_dict_eq_refl
    (fun _ hq => call_meets F.slot_bool_eq rfl F.entry_int_eq (F.args_int_eq_2 _ _) (bool_eq_d b l es ep dd sl) ⟨ho, hq⟩) (fun _ hq => call_meets F.slot_dict_eq_refl ⟨_, ho, rfl⟩ F.entry_dict_eq (F.args_dict_eq_2 _ _) (d_eq_bool l es ep dd sl b) ⟨ho, hq⟩)
    (fun _ hq => wpAny_of_eq (rfl : isSame (.bool b) (.ref l) = pure false) hq) (.inr hu) h
theorem RcAt_d_int (b : Int) (u : Tok) (hd : IsD s.heap l) (hu : A.units < cLine) : RcAt A s (.ref l) (.int b u) false := fun prog w E Q h => by
  obtain ⟨⟨cls, dd, data, sl⟩, es, ep, ho, h1, h2⟩ := hd
  simp only at h1 h2
  subst h1 h2
  exact rc_eq_decline_or (k := false) ⟨_, ho, rfl⟩ (typeIs_int s b u) (by decide) F.sub_int_dict F.slot_dict_eq F.slot_int_eq_refl
    (fun _ hq => call_meets F.slot_dict_eq ⟨_, ho, rfl⟩ F.entry_dict_eq (F.args_dict_eq_2 _ _) (d_eq_int l es ep dd sl b u) ⟨ho, hq⟩) (fun _ hq => call_meets F.slot_int_eq_refl (typeIs_int s b u) F.entry_int_eq (F.args_int_eq_2 _ _) (int_eq_d b u l es ep dd sl) ⟨ho, hq⟩)
    (fun _ hq => wpAny_of_eq (rfl : isSame (.ref l) (.int b u) = pure false) hq) (.inr hu) h
theorem RcAt_int_d (b : Int) (u : Tok) (hd : IsD s.heap l) (hu : A.units < cLine) : RcAt A s (.int b u) (.ref l) false := fun prog w E Q h => by
  obtain ⟨⟨cls, dd, data, sl⟩, es, ep, ho, h1, h2⟩ := hd
  simp only at h1 h2
  subst h1 h2
  exact rc_eq_decline_or (k := false) (typeIs_int s b u) ⟨_, ho, rfl⟩ (by decide) F.sub_dict_int F.slot_int_eq F.slot_dict_eq_refl
    (fun _ hq => call_meets F.slot_int_eq (typeIs_int s b u) F.entry_int_eq (F.args_int_eq_2 _ _) (int_eq_d b u l es ep dd sl) ⟨ho, hq⟩) (fun _ hq => call_meets F.slot_dict_eq_refl ⟨_, ho, rfl⟩ F.entry_dict_eq (F.args_dict_eq_2 _ _) (d_eq_int l es ep dd sl b u) ⟨ho, hq⟩)
    (fun _ hq => wpAny_of_eq (rfl : isSame (.int b u) (.ref l) = pure false) hq) (.inr hu) h
theorem RcAt_d_str (b : Str) (u : Tok) (hd : IsD s.heap l) (hu : A.units < cLine) : RcAt A s (.ref l) (.str b u) false := fun prog w E Q h => by
  obtain ⟨⟨cls, dd, data, sl⟩, es, ep, ho, h1, h2⟩ := hd
  simp only at h1 h2
  subst h1 h2
  exact rc_eq_decline_or (k := false) ⟨_, ho, rfl⟩ (typeIs_str s b u) (by decide) F.sub_str_dict F.slot_dict_eq F.slot_str_eq_refl
    (fun _ hq => call_meets F.slot_dict_eq ⟨_, ho, rfl⟩ F.entry_dict_eq (F.args_dict_eq_2 _ _) (d_eq_str l es ep dd sl b u) ⟨ho, hq⟩) (fun _ hq => call_meets F.slot_str_eq_refl (typeIs_str s b u) F.entry_str_eq (F.args_str_eq_2 _ _) (str_eq_d b u l es ep dd sl) ⟨ho, hq⟩)
    (fun _ hq => wpAny_of_eq (rfl : isSame (.ref l) (.str b u) = pure false) hq) (.inr hu) h
theorem RcAt_str_d (b : Str) (u : Tok) (hd : IsD s.heap l) (hu : A.units < cLine) : RcAt A s (.str b u) (.ref l) false := fun prog w E Q h => by
  obtain ⟨⟨cls, dd, data, sl⟩, es, ep, ho, h1, h2⟩ := hd
  simp only at h1 h2
  subst h1 h2
  exact rc_eq_decline_or (k := false) (typeIs_str s b u) ⟨_, ho, rfl⟩ (by decide) F.sub_dict_str F.slot_str_eq F.slot_dict_eq_refl
    (fun _ hq => call_meets F.slot_str_eq (typeIs_str s b u) F.entry_str_eq (F.args_str_eq_2 _ _) (str_eq_d b u l es ep dd sl) ⟨ho, hq⟩) (fun _ hq => call_meets F.slot_dict_eq_refl ⟨_, ho, rfl⟩ F.entry_dict_eq (F.args_dict_eq_2 _ _) (d_eq_str l es ep dd sl b u) ⟨ho, hq⟩)
    (fun _ hq => wpAny_of_eq (rfl : isSame (.str b u) (.ref l) = pure false) hq) (.inr hu) h
theorem RcAt_d_list (hd : IsD s.heap l) (hb : s.heap.IsList b its) (hu : A.units < cLine) : RcAt A s (.ref l) (.ref b) false := fun prog w E Q h => by
  have hne : l ≠ b := d_ne_seq (c := "list") (by decide) hd (by obtain ⟨o, h1, h2, _⟩ := hb; exact ⟨o, h1, h2⟩)
  obtain ⟨⟨cls, dd, data, sl⟩, es, ep, ho, h1, h2⟩ := hd
  obtain ⟨⟨cls2, dd2, data2, sl2⟩, ho2, hc2, n, hd2⟩ := hb
  simp only at h1 h2 hc2 hd2
  subst h1 h2 hc2 hd2
  exact (rc_eq_decline_or (k := false) ⟨_, ho, rfl⟩ ⟨_, ho2, rfl⟩ (by decide) F.sub_list_dict F.slot_dict_eq F.slot_list_eq_refl
    (fun _ hq => call_meets F.slot_dict_eq ⟨_, ho, rfl⟩ F.entry_dict_eq (F.args_dict_eq_2 _ _) (d_eq_list l es ep dd sl b its n dd2 sl2) ⟨ho, ho2, hq⟩) (fun _ hq => call_meets F.slot_list_eq_refl ⟨_, ho2, rfl⟩ F.entry_list_eq (F.args_list_eq_2 _ _) (list_eq_d b its n dd2 sl2 l es ep dd sl) ⟨ho, ho2, hq⟩)
    (fun _ hq => wpAny_isSame_ref_other hne ho ho2 (by simp) hq) (.inr hu) h)
theorem RcAt_list_d (hb : s.heap.IsList b its) (hd : IsD s.heap l) (hu : A.units < cLine) : RcAt A s (.ref b) (.ref l) false := fun prog w E Q h => by
  have hne : l ≠ b := d_ne_seq (c := "list") (by decide) hd (by obtain ⟨o, h1, h2, _⟩ := hb; exact ⟨o, h1, h2⟩)
  obtain ⟨⟨cls, dd, data, sl⟩, es, ep, ho, h1, h2⟩ := hd
  obtain ⟨⟨cls2, dd2, data2, sl2⟩, ho2, hc2, n, hd2⟩ := hb
  simp only at h1 h2 hc2 hd2
  subst h1 h2 hc2 hd2
  exact (rc_eq_decline_or (k := false) ⟨_, ho2, rfl⟩ ⟨_, ho, rfl⟩ (by decide) F.sub_dict_list F.slot_list_eq F.slot_dict_eq_refl
    (fun _ hq => call_meets F.slot_list_eq ⟨_, ho2, rfl⟩ F.entry_list_eq (F.args_list_eq_2 _ _) (list_eq_d b its n dd2 sl2 l es ep dd sl) ⟨ho, ho2, hq⟩) (fun _ hq => call_meets F.slot_dict_eq_refl ⟨_, ho, rfl⟩ F.entry_dict_eq (F.args_dict_eq_2 _ _) (d_eq_list l es ep dd sl b its n dd2 sl2) ⟨ho, ho2, hq⟩)
    (fun _ hq => wpAny_isSame_ref_other' hne.symm ho2 ho (by simp) hq) (.inr hu) h)
theorem RcAt_d_tuple (hd : IsD s.heap l) (hb : s.heap.IsTuple b its) (hu : A.units < cLine) : RcAt A s (.ref l) (.ref b) false := fun prog w E Q h => by
  have hne : l ≠ b := d_ne_seq (c := "tuple") (by decide) hd (by obtain ⟨o, h1, h2, _⟩ := hb; exact ⟨o, h1, h2⟩)
  obtain ⟨⟨cls, dd, data, sl⟩, es, ep, ho, h1, h2⟩ := hd
  obtain ⟨⟨cls2, dd2, data2, sl2⟩, ho2, hc2, n, hd2⟩ := hb
  simp only at h1 h2 hc2 hd2
  subst h1 h2 hc2 hd2
  exact (rc_eq_decline_or (k := false) ⟨_, ho, rfl⟩ ⟨_, ho2, rfl⟩ (by decide) F.sub_tuple_dict F.slot_dict_eq F.slot_tuple_eq_refl
    (fun _ hq => call_meets F.slot_dict_eq ⟨_, ho, rfl⟩ F.entry_dict_eq (F.args_dict_eq_2 _ _) (d_eq_tuple l es ep dd sl b its n dd2 sl2) ⟨ho, ho2, hq⟩) (fun _ hq => call_meets F.slot_tuple_eq_refl ⟨_, ho2, rfl⟩ F.entry_tuple_eq (F.args_tuple_eq_2 _ _) (tuple_eq_d b its n dd2 sl2 l es ep dd sl) ⟨ho, ho2, hq⟩)
    (fun _ hq => wpAny_isSame_ref_other hne ho ho2 (by simp) hq) (.inr hu) h)
theorem RcAt_tuple_d (hb : s.heap.IsTuple b its) (hd : IsD s.heap l) (hu : A.units < cLine) : RcAt A s (.ref b) (.ref l) false := fun prog w E Q h => by
  have hne : l ≠ b := d_ne_seq (c := "tuple") (by decide) hd (by obtain ⟨o, h1, h2, _⟩ := hb; exact ⟨o, h1, h2⟩)
  obtain ⟨⟨cls, dd, data, sl⟩, es, ep, ho, h1, h2⟩ := hd
  obtain ⟨⟨cls2, dd2, data2, sl2⟩, ho2, hc2, n, hd2⟩ := hb
  simp only at h1 h2 hc2 hd2
  subst h1 h2 hc2 hd2
  exact (rc_eq_decline_or (k := false) ⟨_, ho2, rfl⟩ ⟨_, ho, rfl⟩ (by decide) F.sub_dict_tuple F.slot_tuple_eq F.slot_dict_eq_refl
    (fun _ hq => call_meets F.slot_tuple_eq ⟨_, ho2, rfl⟩ F.entry_tuple_eq (F.args_tuple_eq_2 _ _) (tuple_eq_d b its n dd2 sl2 l es ep dd sl) ⟨ho, ho2, hq⟩) (fun _ hq => call_meets F.slot_dict_eq_refl ⟨_, ho, rfl⟩ F.entry_dict_eq (F.args_dict_eq_2 _ _) (d_eq_tuple l es ep dd sl b its n dd2 sl2) ⟨ho, ho2, hq⟩)
    (fun _ hq => wpAny_isSame_ref_other' hne.symm ho2 ho (by simp) hq) (.inr hu) h)
theorem RcNeAt_d_none (hd : IsD s.heap l) (hu : A.units < cLine) : RcNeAt A s (.ref l) (.none) true := fun prog w E Q h => by
  obtain ⟨⟨cls, dd, data, sl⟩, es, ep, ho, h1, h2⟩ := hd
  simp only at h1 h2
  subst h1 h2
  exact rc_ne_decline_or (k := false) ⟨_, ho, rfl⟩ rfl (by decide) F.sub_NoneType_dict F.slot_dict_ne F.slot_NoneType_ne_refl
    (fun _ hq => call_meets F.slot_dict_ne ⟨_, ho, rfl⟩ F.entry_dict_ne (F.args_dict_ne_2 _ _) (d_ne_none l es ep dd sl) ⟨ho, hq⟩) (fun _ hq => call_gives F.slot_NoneType_ne_refl rfl F.entry_NoneType_ne (F.args_NoneType_ne_2 _ _) (NoneType___ne___none_ref_0 l) hq)
    (fun _ hq => wpAny_of_eq (rfl : isSame (.ref l) (.none) = pure false) hq) (.inr hu) h
theorem RcNeAt_none_d (hd : IsD s.heap l) (hu : A.units < cLine) : RcNeAt A s (.none) (.ref l) true := fun prog w E Q h => by
  obtain ⟨⟨cls, dd, data, sl⟩, es, ep, ho, h1, h2⟩ := hd
  simp only at h1 h2
  subst h1 h2
  exact rc_ne_decline_or (k := false) rfl ⟨_, ho, rfl⟩ (by decide) F.sub_dict_NoneType F.slot_NoneType_ne F.slot_dict_ne_refl
    (fun _ hq => call_gives F.slot_NoneType_ne rfl F.entry_NoneType_ne (F.args_NoneType_ne_2 _ _) (NoneType___ne___none_ref_0 l) hq) (fun _ hq => call_meets F.slot_dict_ne_refl ⟨_, ho, rfl⟩ F.entry_dict_ne (F.args_dict_ne_2 _ _) (d_ne_none l es ep dd sl) ⟨ho, hq⟩)
    (fun _ hq => wpAny_of_eq (rfl : isSame (.none) (.ref l) = pure false) hq) (.inr hu) h
theorem RcNeAt_d_bool (b : Bool) (hd : IsD s.heap l) (hu : A.units < cLine) : RcNeAt A s (.ref l) (.bool b) true := fun prog w E Q h => by
  obtain ⟨⟨cls, dd, data, sl⟩, es, ep, ho, h1, h2⟩ := hd
  simp only at h1 h2
  subst h1 h2
  exact rc_ne_decline_or (k := false) ⟨_, ho, rfl⟩ rfl (by decide) F.sub_bool_dict F.slot_dict_ne F.slot_bool_ne_refl
    (fun _ hq => call_meets F.slot_dict_ne ⟨_, ho, rfl⟩ F.entry_dict_ne (F.args_dict_ne_2 _ _) (d_ne_bool l es ep dd sl b) ⟨ho, hq⟩) (fun _ hq => call_meets F.slot_bool_ne_refl rfl F.entry_int_ne (F.args_int_ne_2 _ _) (bool_ne_d b l es ep dd sl) ⟨ho, hq⟩)
    (fun _ hq => wpAny_of_eq (rfl : isSame (.ref l) (.bool b) = pure false) hq) (.inr hu) h
theorem RcNeAt_bool_d (b : Bool) (hd : IsD s.heap l) (hu : A.units < cLine) : RcNeAt A s (.bool b) (.ref l) true := fun prog w E Q h => by
  obtain ⟨⟨cls, dd, data, sl⟩, es, ep, ho, h1, h2⟩ := hd
  simp only at h1 h2
  subst h1 h2
  exact rc_ne_decline_or (k := false) rfl ⟨_, ho, rfl⟩ (by decide) F.sub_dict_bool F.slot_bool_ne F.slot_dict_ne_refl
    (fun _ hq => call_meets F.slot_bool_ne rfl F.entry_int_ne (F.args_int_ne_2 _ _) (bool_ne_d b l es ep dd sl) ⟨ho, hq⟩) (fun _ hq => call_meets F.slot_dict_ne_refl ⟨_, ho, rfl⟩ F.entry_dict_ne (F.args_dict_ne_2 _ _) (d_ne_bool l es ep dd sl b) ⟨ho, hq⟩)
    (fun _ hq => wpAny_of_eq (rfl : isSame (.bool b) (.ref l) = pure false) hq) (.inr hu) h
theorem RcNeAt_d_int (b : Int) (u : Tok) (hd : IsD s.heap l) (hu : A.units < cLine) : RcNeAt A s (.ref l) (.int b u) true := fun prog w E Q h => by
  obtain ⟨⟨cls, dd, data, sl⟩, es, ep, ho, h1, h2⟩ := hd
  simp only at h1 h2
  subst h1 h2
  exact rc_ne_decline_or (k := false) ⟨_, ho, rfl⟩ (typeIs_int s b u) (by decide) F.sub_int_dict F.slot_dict_ne F.slot_int_ne_refl
    (fun _ hq => call_meets F.slot_dict_ne ⟨_, ho, rfl⟩ F.entry_dict_ne (F.args_dict_ne_2 _ _) (d_ne_int l es ep dd sl b u) ⟨ho, hq⟩) (fun _ hq => call_meets F.slot_int_ne_refl (typeIs_int s b u) F.entry_int_ne (F.args_int_ne_2 _ _) (int_ne_d b u l es ep dd sl) ⟨ho, hq⟩)
    (fun _ hq => wpAny_of_eq (rfl : isSame (.ref l) (.int b u) = pure false) hq) (.inr hu) h
theorem RcNeAt_int_d (b : Int) (u : Tok) (hd : IsD s.heap l) (hu : A.units < cLine) : RcNeAt A s (.int b u) (.ref l) true := fun prog w E Q h => by
  obtain ⟨⟨cls, dd, data, sl⟩, es, ep, ho, h1, h2⟩ := hd
  simp only at h1 h2
  subst h1 h2
  exact rc_ne_decline_or (k := false) (typeIs_int s b u) ⟨_, ho, rfl⟩ (by decide) F.sub_dict_int F.slot_int_ne F.slot_dict_ne_refl
    (fun _ hq => call_meets F.slot_int_ne (typeIs_int s b u) F.entry_int_ne (F.args_int_ne_2 _ _) (int_ne_d b u l es ep dd sl) ⟨ho, hq⟩) (fun _ hq => call_meets F.slot_dict_ne_refl ⟨_, ho, rfl⟩ F.entry_dict_ne (F.args_dict_ne_2 _ _) (d_ne_int l es ep dd sl b u) ⟨ho, hq⟩)
    (fun _ hq => wpAny_of_eq (rfl : isSame (.int b u) (.ref l) = pure false) hq) (.inr hu) h
theorem RcNeAt_d_str (b : Str) (u : Tok) (hd : IsD s.heap l) (hu : A.units < cLine) : RcNeAt A s (.ref l) (.str b u) true := fun prog w E Q h => by
  obtain ⟨⟨cls, dd, data, sl⟩, es, ep, ho, h1, h2⟩ := hd
  simp only at h1 h2
  subst h1 h2
  exact rc_ne_decline_or (k := false) ⟨_, ho, rfl⟩ (typeIs_str s b u) (by decide) F.sub_str_dict F.slot_dict_ne F.slot_str_ne_refl
    (fun _ hq => call_meets F.slot_dict_ne ⟨_, ho, rfl⟩ F.entry_dict_ne (F.args_dict_ne_2 _ _) (d_ne_str l es ep dd sl b u) ⟨ho, hq⟩) (fun _ hq => call_meets F.slot_str_ne_refl (typeIs_str s b u) F.entry_str_ne (F.args_str_ne_2 _ _) (str_ne_d b u l es ep dd sl) ⟨ho, hq⟩)
    (fun _ hq => wpAny_of_eq (rfl : isSame (.ref l) (.str b u) = pure false) hq) (.inr hu) h
theorem RcNeAt_str_d (b : Str) (u : Tok) (hd : IsD s.heap l) (hu : A.units < cLine) : RcNeAt A s (.str b u) (.ref l) true := fun prog w E Q h => by
  obtain ⟨⟨cls, dd, data, sl⟩, es, ep, ho, h1, h2⟩ := hd
  simp only at h1 h2
  subst h1 h2
  exact rc_ne_decline_or (k := false) (typeIs_str s b u) ⟨_, ho, rfl⟩ (by decide) F.sub_dict_str F.slot_str_ne F.slot_dict_ne_refl
    (fun _ hq => call_meets F.slot_str_ne (typeIs_str s b u) F.entry_str_ne (F.args_str_ne_2 _ _) (str_ne_d b u l es ep dd sl) ⟨ho, hq⟩) (fun _ hq => call_meets F.slot_dict_ne_refl ⟨_, ho, rfl⟩ F.entry_dict_ne (F.args_dict_ne_2 _ _) (d_ne_str l es ep dd sl b u) ⟨ho, hq⟩)
    (fun _ hq => wpAny_of_eq (rfl : isSame (.str b u) (.ref l) = pure false) hq) (.inr hu) h
theorem RcNeAt_d_list (hd : IsD s.heap l) (hb : s.heap.IsList b its) (hu : A.units < cLine) : RcNeAt A s (.ref l) (.ref b) true := fun prog w E Q h => by
  have hne : l ≠ b := d_ne_seq (c := "list") (by decide) hd (by obtain ⟨o, h1, h2, _⟩ := hb; exact ⟨o, h1, h2⟩)
  obtain ⟨⟨cls, dd, data, sl⟩, es, ep, ho, h1, h2⟩ := hd
  obtain ⟨⟨cls2, dd2, data2, sl2⟩, ho2, hc2, n, hd2⟩ := hb
  simp only at h1 h2 hc2 hd2
  subst h1 h2 hc2 hd2
  exact (rc_ne_decline_or (k := false) ⟨_, ho, rfl⟩ ⟨_, ho2, rfl⟩ (by decide) F.sub_list_dict F.slot_dict_ne F.slot_list_ne_refl
    (fun _ hq => call_meets F.slot_dict_ne ⟨_, ho, rfl⟩ F.entry_dict_ne (F.args_dict_ne_2 _ _) (d_ne_list l es ep dd sl b its n dd2 sl2) ⟨ho, ho2, hq⟩) (fun _ hq => call_meets F.slot_list_ne_refl ⟨_, ho2, rfl⟩ F.entry_list_ne (F.args_list_ne_2 _ _) (list_ne_d b its n dd2 sl2 l es ep dd sl) ⟨ho, ho2, hq⟩)
    (fun _ hq => wpAny_isSame_ref_other hne ho ho2 (by simp) hq) (.inr hu) h)
theorem RcNeAt_list_d (hb : s.heap.IsList b its) (hd : IsD s.heap l) (hu : A.units < cLine) : RcNeAt A s (.ref b) (.ref l) true := fun prog w E Q h => by
  have hne : l ≠ b := d_ne_seq (c := "list") (by decide) hd (by obtain ⟨o, h1, h2, _⟩ := hb; exact ⟨o, h1, h2⟩)
  obtain ⟨⟨cls, dd, data, sl⟩, es, ep, ho, h1, h2⟩ := hd
  obtain ⟨⟨cls2, dd2, data2, sl2⟩, ho2, hc2, n, hd2⟩ := hb
  simp only at h1 h2 hc2 hd2
  subst h1 h2 hc2 hd2
  exact (rc_ne_decline_or (k := false) ⟨_, ho2, rfl⟩ ⟨_, ho, rfl⟩ (by decide) F.sub_dict_list F.slot_list_ne F.slot_dict_ne_refl
    (fun _ hq => call_meets F.slot_list_ne ⟨_, ho2, rfl⟩ F.entry_list_ne (F.args_list_ne_2 _ _) (list_ne_d b its n dd2 sl2 l es ep dd sl) ⟨ho, ho2, hq⟩) (fun _ hq => call_meets F.slot_dict_ne_refl ⟨_, ho, rfl⟩ F.entry_dict_ne (F.args_dict_ne_2 _ _) (d_ne_list l es ep dd sl b its n dd2 sl2) ⟨ho, ho2, hq⟩)
    (fun _ hq => wpAny_isSame_ref_other' hne.symm ho2 ho (by simp) hq) (.inr hu) h)
theorem RcNeAt_d_tuple (hd : IsD s.heap l) (hb : s.heap.IsTuple b its) (hu : A.units < cLine) : RcNeAt A s (.ref l) (.ref b) true := fun prog w E Q h => by
  have hne : l ≠ b := d_ne_seq (c := "tuple") (by decide) hd (by obtain ⟨o, h1, h2, _⟩ := hb; exact ⟨o, h1, h2⟩)
  obtain ⟨⟨cls, dd, data, sl⟩, es, ep, ho, h1, h2⟩ := hd
  obtain ⟨⟨cls2, dd2, data2, sl2⟩, ho2, hc2, n, hd2⟩ := hb
  simp only at h1 h2 hc2 hd2
  subst h1 h2 hc2 hd2
  exact (rc_ne_decline_or (k := false) ⟨_, ho, rfl⟩ ⟨_, ho2, rfl⟩ (by decide) F.sub_tuple_dict F.slot_dict_ne F.slot_tuple_ne_refl
    (fun _ hq => call_meets F.slot_dict_ne ⟨_, ho, rfl⟩ F.entry_dict_ne (F.args_dict_ne_2 _ _) (d_ne_tuple l es ep dd sl b its n dd2 sl2) ⟨ho, ho2, hq⟩) (fun _ hq => call_meets F.slot_tuple_ne_refl ⟨_, ho2, rfl⟩ F.entry_tuple_ne (F.args_tuple_ne_2 _ _) (tuple_ne_d b its n dd2 sl2 l es ep dd sl) ⟨ho, ho2, hq⟩)
    (fun _ hq => wpAny_isSame_ref_other hne ho ho2 (by simp) hq) (.inr hu) h)
theorem RcNeAt_tuple_d (hb : s.heap.IsTuple b its) (hd : IsD s.heap l) (hu : A.units < cLine) : RcNeAt A s (.ref b) (.ref l) true := fun prog w E Q h => by
  have hne : l ≠ b := d_ne_seq (c := "tuple") (by decide) hd (by obtain ⟨o, h1, h2, _⟩ := hb; exact ⟨o, h1, h2⟩)
  obtain ⟨⟨cls, dd, data, sl⟩, es, ep, ho, h1, h2⟩ := hd
  obtain ⟨⟨cls2, dd2, data2, sl2⟩, ho2, hc2, n, hd2⟩ := hb
  simp only at h1 h2 hc2 hd2
  subst h1 h2 hc2 hd2
  exact (rc_ne_decline_or (k := false) ⟨_, ho2, rfl⟩ ⟨_, ho, rfl⟩ (by decide) F.sub_dict_tuple F.slot_tuple_ne F.slot_dict_ne_refl
    (fun _ hq => call_meets F.slot_tuple_ne ⟨_, ho2, rfl⟩ F.entry_tuple_ne (F.args_tuple_ne_2 _ _) (tuple_ne_d b its n dd2 sl2 l es ep dd sl) ⟨ho, ho2, hq⟩) (fun _ hq => call_meets F.slot_dict_ne_refl ⟨_, ho, rfl⟩ F.entry_dict_ne (F.args_dict_ne_2 _ _) (d_ne_tuple l es ep dd sl b its n dd2 sl2) ⟨ho, ho2, hq⟩)
    (fun _ hq => wpAny_isSame_ref_other' hne.symm ho2 ho (by simp) hq) (.inr hu) h)
theorem EqAt_d_none (hd : IsD s.heap l) (hu : A.units < cLine) : EqAt A s (.ref l) (.none) false := fun prog w E Q h => by
  unfold eqBool
  refine wpAny_holding (wpAny_ite_split (fun hab => absurd (eq_of_beq hab) nofun) (fun _ => ?_))
  exact wpAny_bind (RcAt_d_none hd hu prog w E _ (wpAny_truthy_bool h))
theorem EqAt_none_d (hd : IsD s.heap l) (hu : A.units < cLine) : EqAt A s (.none) (.ref l) false := fun prog w E Q h => by
  unfold eqBool
  refine wpAny_holding (wpAny_ite_split (fun hab => absurd (eq_of_beq hab) nofun) (fun _ => ?_))
  exact wpAny_bind (RcAt_none_d hd hu prog w E _ (wpAny_truthy_bool h))
theorem EqAt_d_bool (b : Bool) (hd : IsD s.heap l) (hu : A.units < cLine) : EqAt A s (.ref l) (.bool b) false := fun prog w E Q h => by
  unfold eqBool
  refine wpAny_holding (wpAny_ite_split (fun hab => absurd (eq_of_beq hab) nofun) (fun _ => ?_))
  exact wpAny_bind (RcAt_d_bool b hd hu prog w E _ (wpAny_truthy_bool h))
theorem EqAt_bool_d (b : Bool) (hd : IsD s.heap l) (hu : A.units < cLine) : EqAt A s (.bool b) (.ref l) false := fun prog w E Q h => by
  unfold eqBool
  refine wpAny_holding (wpAny_ite_split (fun hab => absurd (eq_of_beq hab) nofun) (fun _ => ?_))
  exact wpAny_bind (RcAt_bool_d b hd hu prog w E _ (wpAny_truthy_bool h))
theorem EqAt_d_int (b : Int) (u : Tok) (hd : IsD s.heap l) (hu : A.units < cLine) : EqAt A s (.ref l) (.int b u) false := fun prog w E Q h => by
  unfold eqBool
  refine wpAny_holding (wpAny_ite_split (fun hab => absurd (eq_of_beq hab) nofun) (fun _ => ?_))
  exact wpAny_bind (RcAt_d_int b u hd hu prog w E _ (wpAny_truthy_bool h))
theorem EqAt_int_d (b : Int) (u : Tok) (hd : IsD s.heap l) (hu : A.units < cLine) : EqAt A s (.int b u) (.ref l) false := fun prog w E Q h => by
  unfold eqBool
  refine wpAny_holding (wpAny_ite_split (fun hab => absurd (eq_of_beq hab) nofun) (fun _ => ?_))
  exact wpAny_bind (RcAt_int_d b u hd hu prog w E _ (wpAny_truthy_bool h))
theorem EqAt_d_str (b : Str) (u : Tok) (hd : IsD s.heap l) (hu : A.units < cLine) : EqAt A s (.ref l) (.str b u) false := fun prog w E Q h => by
  unfold eqBool
  refine wpAny_holding (wpAny_ite_split (fun hab => absurd (eq_of_beq hab) nofun) (fun _ => ?_))
  exact wpAny_bind (RcAt_d_str b u hd hu prog w E _ (wpAny_truthy_bool h))
theorem EqAt_str_d (b : Str) (u : Tok) (hd : IsD s.heap l) (hu : A.units < cLine) : EqAt A s (.str b u) (.ref l) false := fun prog w E Q h => by
  unfold eqBool
  refine wpAny_holding (wpAny_ite_split (fun hab => absurd (eq_of_beq hab) nofun) (fun _ => ?_))
  exact wpAny_bind (RcAt_str_d b u hd hu prog w E _ (wpAny_truthy_bool h))
theorem EqAt_d_list (hd : IsD s.heap l) (hb : s.heap.IsList b its) (hu : A.units < cLine) : EqAt A s (.ref l) (.ref b) false := .of_refs (d_ne_seq (c := "list") (by decide) hd (by obtain ⟨o, h1, h2, _⟩ := hb; exact ⟨o, h1, h2⟩)) (RcAt_d_list hd hb hu)
theorem EqAt_list_d (hb : s.heap.IsList b its) (hd : IsD s.heap l) (hu : A.units < cLine) : EqAt A s (.ref b) (.ref l) false := .of_refs ((d_ne_seq (c := "list") (by decide) hd (by obtain ⟨o, h1, h2, _⟩ := hb; exact ⟨o, h1, h2⟩)).symm) (RcAt_list_d hb hd hu)
theorem EqAt_d_tuple (hd : IsD s.heap l) (hb : s.heap.IsTuple b its) (hu : A.units < cLine) : EqAt A s (.ref l) (.ref b) false := .of_refs (d_ne_seq (c := "tuple") (by decide) hd (by obtain ⟨o, h1, h2, _⟩ := hb; exact ⟨o, h1, h2⟩)) (RcAt_d_tuple hd hb hu)
theorem EqAt_tuple_d (hb : s.heap.IsTuple b its) (hd : IsD s.heap l) (hu : A.units < cLine) : EqAt A s (.ref b) (.ref l) false := .of_refs ((d_ne_seq (c := "tuple") (by decide) hd (by obtain ⟨o, h1, h2, _⟩ := hb; exact ⟨o, h1, h2⟩)).symm) (RcAt_tuple_d hb hd hu)
end
end T
set_option Elab.async false
set_option linter.all false
set_option maxRecDepth 100000
set_option maxHeartbeats 4000000
/-! TLe: == and != and in of data. -/
namespace T
open PySem PySem.Spec L2
open PyProof.Rows hiding St
/-- what a value is, one step deep -/
inductive Vw where
  | non | bl (b : Bool) | int (i : Int) | str (x : Str) | tu (ds : List D) | li (ds : List D) | di
def vw (s : S) : D → Option Vw
  | .non => some .non
  | .bl b => some (.bl b)
  | .int i => some (.int i)
  | .str x => some (.str x)
  | .tup ds => some (.tu ds)
  | .rol ds => some (.li ds)
  | .ref n => match s[n]? with
    | some (.lst ds) => some (.li ds)
    | some (.dic _) => some .di
    | some (.dit _) => some .di
    | _ => none
/-- == item by item -/
def eqL (f : D → D → Option Bool) : List D → List D → Option Bool
  | [], [] => some true
  | x :: xs, y :: ys => match f x y, eqL f xs ys with
    | some a, some b => some (a && b)
    | _, _ => none
  | _, _ => some false
def eqVw (f : D → D → Option Bool) : Vw → Vw → Option Bool
  | .non, .non => some true
  | .non, .bl _ => some false
  | .non, .int _ => some false
  | .non, .str _ => some false
  | .non, .tu _ => some false
  | .non, .li _ => some false
  | .non, .di => some false
  | .bl _, .non => some false
  | .bl x, .bl y => some (x == y)
  | .bl x, .int y => some ((if x then 1 else 0) == y)
  | .bl _, .str _ => some false
  | .bl _, .tu _ => some false
  | .bl _, .li _ => some false
  | .bl _, .di => some false
  | .int _, .non => some false
  | .int x, .bl y => some (x == (if y then 1 else 0))
  | .int x, .int y => some (x == y)
  | .int _, .str _ => some false
  | .int _, .tu _ => some false
  | .int _, .li _ => some false
  | .int _, .di => some false
  | .str _, .non => some false
  | .str _, .bl _ => some false
  | .str _, .int _ => some false
  | .str x, .str y => some (x == y)
  | .str _, .tu _ => some false
  | .str _, .li _ => some false
  | .str _, .di => some false
  | .tu _, .non => some false
  | .tu _, .bl _ => some false
  | .tu _, .int _ => some false
  | .tu _, .str _ => some false
  | .tu xs, .tu ys => eqL f xs ys
  | .tu _, .li _ => some false
  | .tu _, .di => some false
  | .li _, .non => some false
  | .li _, .bl _ => some false
  | .li _, .int _ => some false
  | .li _, .str _ => some false
  | .li _, .tu _ => some false
  | .li xs, .li ys => eqL f xs ys
  | .li _, .di => some false
  | .di, .non => some false
  | .di, .bl _ => some false
  | .di, .int _ => some false
  | .di, .str _ => some false
  | .di, .tu _ => some false
  | .di, .li _ => some false
  | .di, .di => none
def eqD (s : S) : Nat → D → D → Option Bool
  | 0, _, _ => none
  | n + 1, a, b => match vw s a, vw s b with
    | some x, some y => eqVw (eqD s n) x y
    | _, _ => none
theorem eqL_refl {f : D → D → Option Bool} (hf : ∀ d k, f d d = some k → k = true) : ∀ (xs : List D) (k : Bool), eqL f xs xs = some k → k = true
  | [], k, h => by simp [eqL] at h; first | exact h | exact h.symm
  | x :: xs, k, h => by
    unfold eqL at h
    split at h
    · rename_i a b h1 h2
      simp at h
      rw [hf x a h1, eqL_refl hf xs b h2] at h
      simpa using h.symm
    · cases h
theorem eqD_refl {s : S} : ∀ (n : Nat) (d : D) (k : Bool), eqD s n d d = some k → k = true
  | 0, d, k, h => by simp [eqD] at h
  | n + 1, d, k, h => by
    unfold eqD at h
    split at h
    · rename_i x y h1 h2
      rw [h1] at h2; cases h2
      cases x <;> simp [eqVw] at h <;> first | exact h.symm | exact h | exact eqL_refl (eqD_refl n) _ _ h
    · cases h
section
variable {X : Cx} {pins : List (Addr × Obj)} {σ : St} {H : Hp} {st : Shared} {ad : Ad} {m : List Addr} {s : S}
/-- the value lies so -/
inductive Sh (st : Shared) (K : PySem.W.Frag) (m : List Addr) (H : Hp) : Value → Vw → Prop
  | non : Sh st K m H .none .non
  | bl (b : Bool) : Sh st K m H (.bool b) (.bl b)
  | int (i : Int) (t : Tok) : Sh st K m H (.int i t) (.int i)
  | str (x : Str) (t : Tok) : Sh st K m H (.str x t) (.str x)
  | tu {a : Addr} {its : List Value} {vs : List V} {ds : List D} : st.heap.IsTuple a its.toArray → Vals vs its → RDs K m H vs ds → Sh st K m H (.ref a) (.tu ds)
  | li {a : Addr} {its : List Value} {vs : List V} {ds : List D} : st.heap.IsList a its.toArray → Vals vs its → RDs K m H vs ds → Sh st K m H (.ref a) (.li ds)
  | di {a : Addr} : IsD st.heap a → Sh st K m H (.ref a) .di
theorem or_di (I : Inv X pins σ H st) {a : Addr} {o : O} (h : OR X.K ad.ca m H a o) (hd : (∃ k, o = .dic k) ∨ ∃ k, o = .dit k) : IsD st.heap a := by
  rcases hd with ⟨k, rfl⟩ | ⟨k, rfl⟩
  · obtain ⟨vs, e, _⟩ := h; obtain ⟨_, _, vs', _, q⟩ := I.hok a _ e; obtain ⟨o, es, ep, h1, h2, h3, _⟩ := q; exact ⟨o, es, ep, h1, h2.1, h3⟩
  · obtain ⟨vs, e, _⟩ := h; obtain ⟨_, _, xs, _, o, es, ep, h1, h2, h3, _⟩ := I.hok a _ e; exact ⟨o, es, ep, h1, h2.1, h3⟩
theorem sh_of (I : Inv X pins σ H st) (hr : HR X.K ad.ca m s H) {v : V} {d : D} {u : Value} {w : Vw} (r : RD X.K m H v d) (ru : RelV v u) (h : vw s d = some w) : Sh st X.K m H u w := by
  cases r with
  | non => cases ru; cases h; exact .non
  | bl b => cases ru; cases h; exact .bl b
  | int i => obtain ⟨t, rfl⟩ := ru; cases h; exact .int i t
  | str x => obtain ⟨t, rfl⟩ := ru; cases h; exact .str x t
  | tup hq rs => cases ru; cases h; obtain ⟨its, rv, p, _⟩ := I.tuple hq; exact .tu p rv rs
  | rol hq rs => cases ru; cases h; obtain ⟨its, rv, p, _⟩ := I.list hq.sql; exact .li p.isList rv rs
  | @ref a n hn =>
    cases ru
    simp only [vw] at h
    split at h
    · rename_i ds hs
      cases h
      obtain ⟨vs, e, rs⟩ := hr.at_ n a _ hn hs
      obtain ⟨its, rv, p, _⟩ := I.list (SqL.of e)
      exact .li p.isList rv rs
    · rename_i ds hs
      cases h
      exact .di (or_di I (hr.at_ n a _ hn hs) (.inl ⟨_, rfl⟩))
    · rename_i ds hs
      cases h
      exact .di (or_di I (hr.at_ n a _ hn hs) (.inr ⟨_, rfl⟩))
    · cases h
theorem lt_cls (I : Inv X pins σ H st) {a : Addr} {o : O} (h : OR X.K ad.ca m H a o) {items : Array Value} (ht : st.heap.IsTuple a items) : False := by
  obtain ⟨ob, ho, hc, n, hd⟩ := ht
  cases o with
  | lst ds => obtain ⟨vs, e, _⟩ := h; obtain ⟨_, its, n', _, q⟩ := I.hok a _ e; rw [ho] at q; cases q; simp at hc
  | dic ds => obtain ⟨vs, e, _⟩ := h; obtain ⟨_, _, vs', _, q⟩ := I.hok a _ e; obtain ⟨o, es, ep, h1, h2, h3, _⟩ := q; rw [ho] at h1; cases h1; rw [hd] at h3; cases h3
  | dit ds => obtain ⟨vs, e, _⟩ := h; obtain ⟨_, _, xs, _, o, es, ep, h1, h2, h3, _⟩ := I.hok a _ e; rw [ho] at h1; cases h1; rw [hd] at h3; cases h3
  | ins c fs => obtain ⟨dx, vs, e, _⟩ := h; obtain ⟨_, _, _, q, _⟩ := I.hok a _ e; rw [ho] at q; cases q; cases hd
  | exo c => obtain ⟨⟨oe, vs, q, _, d⟩, _⟩ := I.hok a _ h; rw [ho] at q; cases q; rw [hd] at d; cases d
  | fzk ds => obtain ⟨_, vs, e, _⟩ := h; obtain ⟨_, _, _, vs', _, q⟩ := I.hok a _ e; obtain ⟨o, es, ep, h1, h2, h3, _⟩ := q; rw [ho] at h1; cases h1; rw [hd] at h3; cases h3
  | fzt ds => obtain ⟨_, vs, e, _⟩ := h; obtain ⟨_, _, _, xs, _, o, es, ep, h1, h2, h3, _⟩ := I.hok a _ e; rw [ho] at h1; cases h1; rw [hd] at h3; cases h3
theorem sqf_or (I : Inv X pins σ H st) {a : Addr} {o : O} {vs : List V} (hq : SqF X.K H a vs) (h : OR X.K ad.ca m H a o) : False := by
  rcases hq with ⟨ob, e⟩ | ⟨ob, its, n, hk, _⟩
  · exact h.nl _ _ e
  · exact h.ne (I.bs a ob (I.ok.mod.kin a ob hk)).2
theorem sqf_no (I : Inv X pins σ H st) {a : Addr} {vs : List V} {o : HO} (hq : SqF X.K H a vs) (e : H a = some o) (hm : Mut (some o)) : False := by
  rcases hq with ⟨ob, h⟩ | ⟨ob, its, n, hk, _⟩
  · rw [h] at e; cases e; exact hm
  · have := (I.bs a ob (I.ok.mod.kin a ob hk)).2
    rw [this] at e; cases e
mutual
/-- at one place lies one thing -/
theorem rd_uniq (I : Inv X pins σ H st) (hr : HR X.K ad.ca m s H) : ∀ {v : V} {d e : D}, RD X.K m H v d → RD X.K m H v e → d = e
  | _, _, _, .non, h => by cases h; rfl
  | _, _, _, .bl b, h => by cases h; rfl
  | _, _, _, .int i, h => by cases h; rfl
  | _, _, _, .str x, h => by cases h; rfl
  | _, _, _, .tup q1 r1, h => by
    cases h with
    | tup q2 r2 => have e := I.tuple_inj q1 q2; subst e; rw [rds_uniq I hr r1 r2]
    | rol q2 r2 =>
      obtain ⟨_, _, p1, _⟩ := I.tuple q1
      obtain ⟨_, _, p2, _⟩ := I.list q2.sql
      exact absurd rfl (SeqAt.ne_of_list_tuple p2.isList p1)
    | ref hn =>
      obtain ⟨_, _, p1, _⟩ := I.tuple q1
      obtain ⟨o, ho, r⟩ := hr.some_at hn
      exact (lt_cls I r p1).elim
  | _, _, _, .rol q1 r1, h => by
    cases h with
    | tup q2 r2 =>
      obtain ⟨_, _, p1, _⟩ := I.tuple q2
      obtain ⟨_, _, p2, _⟩ := I.list q1.sql
      exact absurd rfl (SeqAt.ne_of_list_tuple p2.isList p1)
    | rol q2 r2 => have e := I.list_inj q1.sql q2.sql; subst e; rw [rds_uniq I hr r1 r2]
    | ref hn =>
      obtain ⟨o, ho, r⟩ := hr.some_at hn
      exact (sqf_or I q1 r).elim
  | _, _, _, .ref hn, h => by
    cases h with
    | tup q2 r2 =>
      obtain ⟨_, _, p1, _⟩ := I.tuple q2
      obtain ⟨o, ho, r⟩ := hr.some_at hn
      exact (lt_cls I r p1).elim
    | rol q2 r2 =>
      obtain ⟨o, ho, r⟩ := hr.some_at hn
      exact (sqf_or I q2 r).elim
    | ref hn2 => rw [(List.getElem_inj hr.nd).mp ((List.getElem?_eq_some_iff.mp hn).2.trans (List.getElem?_eq_some_iff.mp hn2).2.symm)]
theorem rds_uniq (I : Inv X pins σ H st) (hr : HR X.K ad.ca m s H) : ∀ {vs : List V} {ds es : List D}, RDs X.K m H vs ds → RDs X.K m H vs es → ds = es
  | _, _, _, .nil, h => by cases h; rfl
  | _, _, _, .cons a r, h => by
    cases h with
    | cons b q => rw [rd_uniq I hr a b, rds_uniq I hr r q]
end
theorem sh_same (I : Inv X pins σ H st) (hr : HR X.K ad.ca m s H) (n : Nat) {v : V} {d e : D} {k : Bool} (h1 : RD X.K m H v d) (h2 : RD X.K m H v e) (h : eqD s n d e = some k) : k = true := by
  have := rd_uniq I hr h1 h2
  subst this
  exact eqD_refl _ _ _ h
theorem eqL_at {f : D → D → Option Bool} : ∀ {xs ys : List D} {k : Bool}, eqL f xs ys = some k → ∃ e : Nat → Bool, (∀ j x y, xs[j]? = some x → ys[j]? = some y → f x y = some (e j)) ∧ ((List.range (min xs.length ys.length)).all e && xs.length == ys.length) = k
  | [], [], k, h => ⟨fun _ => true, fun j x y h => by simp at h, by simp [eqL] at h; subst h; rfl⟩
  | [], y :: ys, k, h => ⟨fun _ => true, fun j x y h => by simp at h, by simp [eqL] at h; subst h; rfl⟩
  | x :: xs, [], k, h => ⟨fun _ => true, fun j x y _ h => by simp at h, by simp [eqL] at h; subst h; rfl⟩
  | x :: xs, y :: ys, k, h => by
    unfold eqL at h
    split at h
    · rename_i a b ha hb
      cases h
      obtain ⟨e, h1, h2⟩ := eqL_at hb
      refine ⟨fun j => match j with | 0 => a | j + 1 => e j, fun j x' y' hx hy => ?_, ?_⟩
      · cases j with
        | zero => simp at hx hy; subst hx hy; exact ha
        | succ j => exact h1 j x' y' (by simpa using hx) (by simpa using hy)
      · rw [List.length_cons, List.length_cons, Nat.succ_min_succ, List.range_succ_eq_map, List.all_cons, List.all_map, ← h2]
        have : (xs.length + 1 == ys.length + 1) = (xs.length == ys.length) := by
          rw [Bool.eq_iff_iff]; simp
        rw [this, Bool.and_assoc]
        rfl
    · cases h
/-- == of data -/
theorem eq_at (I : Inv X pins σ H st) (hr : HR X.K ad.ca m s H) : ∀ (n : Nat) (A : Around), A.units + n < cLine → ∀ {v v' : V} {d e : D} {u u' : Value} {k : Bool}, RD X.K m H v d → RD X.K m H v' e → RelV v u → RelV v' u' → eqD s n d e = some k →
    SeqAt.EqAt A st u u' k ∧ SeqAt.RcAt A st u u' k ∧ SeqAt.RcNeAt A st u u' (!k) := by
  intro n
  induction n with
  | zero => intro A hu v v' d e u u' k _ _ _ _ h; simp [eqD] at h
  | succ n ih =>
    intro A hu v v' d e u u' k h1 h2 ru ru' h
    have hu0 : A.units < cLine := by omega
    have whole := h
    unfold eqD at h
    split at h
    · rename_i x y hx hy
      have s1 := sh_of I hr h1 ru hx
      have s2 := sh_of I hr h2 ru' hy
      have same : u = u' → k = true := fun e => by
        subst e
        have : v = v' := ru.inj ru'
        subst this
        exact sh_same I hr _ h1 h2 whole
      have ofRc : ∀ {a b : Addr}, u = .ref a → u' = .ref b → SeqAt.RcAt A st u u' k → SeqAt.EqAt A st u u' k := fun {a b} e1 e2 q => by
        subst e1 e2
        by_cases hab : a = b
        · subst hab; rw [same rfl]; exact SeqAt.EqAt.same _
        · exact SeqAt.EqAt.of_refs hab q
      have its : ∀ {its its' : List Value} {vs vs' : List V} {ds ds' : List D}, Vals vs its → Vals vs' its' → RDs X.K m H vs ds → RDs X.K m H vs' ds' → eqL (eqD s n) ds ds' = some k →
          ∃ e : Nat → Bool, (∀ j (h1 : j < its.toArray.size) (h2 : j < its'.toArray.size), SeqAt.EqAt A.in1 st its.toArray[j] its'.toArray[j] (e j)) ∧ ((List.range (min its.toArray.size its'.toArray.size)).all e && its.toArray.size == its'.toArray.size) = k := by
        intro its its' vs vs' ds ds' rv rv' rs rs' he
        obtain ⟨e, e1, e2⟩ := eqL_at he
        have l1 : its.toArray.size = ds.length := by rw [List.size_toArray, ← rv.length, rs.length]
        have l2 : its'.toArray.size = ds'.length := by rw [List.size_toArray, ← rv'.length, rs'.length]
        refine ⟨e, fun j h1 h2 => ?_, by rw [l1, l2]; exact e2⟩
        obtain ⟨w, g1, g2⟩ := rs.get (List.getElem?_eq_getElem (show j < ds.length by omega))
        obtain ⟨w', g1', g2'⟩ := rs'.get (List.getElem?_eq_getElem (show j < ds'.length by omega))
        obtain ⟨z, f1, f2⟩ := rv.get g1
        obtain ⟨z', f1', f2'⟩ := rv'.get g1'
        have a1 : its.toArray[j] = z := by
          have := (List.getElem?_eq_some_iff.mp f1).2
          simpa using this
        have a2 : its'.toArray[j] = z' := by
          have := (List.getElem?_eq_some_iff.mp f1').2
          simpa using this
        rw [a1, a2]
        exact (ih A.in1 (by show A.units + 1 + n < cLine; omega) g2 g2' f2 f2' (e1 j _ _ (List.getElem?_eq_getElem (by omega)) (List.getElem?_eq_getElem (by omega)))).1
      cases s1 with
      | non =>
        cases s2 with
        | non =>
          cases (show some _ = some k from h)
          exact ⟨SeqAt.EqAt.same _, SeqAt.RcAt.none_none, SeqAt.RcNeAt.none_none⟩
        | bl b2 =>
          cases (show some _ = some k from h)
          exact ⟨SeqAt.EqAt.none_bool b2, SeqAt.RcAt.none_bool b2, SeqAt.RcNeAt.none_bool b2⟩
        | int i2 t2 =>
          cases (show some _ = some k from h)
          exact ⟨SeqAt.EqAt.none_int i2 t2, SeqAt.RcAt.none_int i2 t2, SeqAt.RcNeAt.none_int i2 t2⟩
        | str z2 t2 =>
          cases (show some _ = some k from h)
          exact ⟨SeqAt.EqAt.none_str z2 t2, SeqAt.RcAt.none_str z2 t2, SeqAt.RcNeAt.none_str z2 t2⟩
        | @tu lb its2 vs2 ds2 p2 rv2 rs2 =>
          cases (show some _ = some k from h)
          exact ⟨SeqAt.EqAt.none_tuple p2 hu0, SeqAt.RcAt.none_tuple p2 hu0, SeqAt.RcNeAt.none_tuple p2 hu0⟩
        | @li lb its2 vs2 ds2 p2 rv2 rs2 =>
          cases (show some _ = some k from h)
          exact ⟨SeqAt.EqAt.none_list p2 hu0, SeqAt.RcAt.none_list p2 hu0, SeqAt.RcNeAt.none_list p2 hu0⟩
        | @di lb pd2 =>
          cases (show some _ = some k from h)
          exact ⟨EqAt_none_d pd2 hu0, RcAt_none_d pd2 hu0, RcNeAt_none_d pd2 hu0⟩
      | bl b =>
        cases s2 with
        | non =>
          cases (show some _ = some k from h)
          exact ⟨SeqAt.EqAt.bool_none b, SeqAt.RcAt.bool_none b, SeqAt.RcNeAt.bool_none b⟩
        | bl b2 =>
          cases (show some _ = some k from h)
          exact ⟨SeqAt.EqAt.bool_bool b b2, SeqAt.RcAt.bool_bool b b2, SeqAt.RcNeAt.bool_bool b b2⟩
        | int i2 t2 =>
          cases (show some _ = some k from h)
          exact ⟨SeqAt.EqAt.bool_int b i2 t2, SeqAt.RcAt.bool_int b i2 t2, SeqAt.RcNeAt.bool_int b i2 t2⟩
        | str z2 t2 =>
          cases (show some _ = some k from h)
          exact ⟨SeqAt.EqAt.bool_str b z2 t2, SeqAt.RcAt.bool_str b z2 t2, SeqAt.RcNeAt.bool_str b z2 t2⟩
        | @tu lb its2 vs2 ds2 p2 rv2 rs2 =>
          cases (show some _ = some k from h)
          exact ⟨SeqAt.EqAt.bool_tuple b p2 hu0, SeqAt.RcAt.bool_tuple b p2 hu0, SeqAt.RcNeAt.bool_tuple b p2 hu0⟩
        | @li lb its2 vs2 ds2 p2 rv2 rs2 =>
          cases (show some _ = some k from h)
          exact ⟨SeqAt.EqAt.bool_list b p2 hu0, SeqAt.RcAt.bool_list b p2 hu0, SeqAt.RcNeAt.bool_list b p2 hu0⟩
        | @di lb pd2 =>
          cases (show some _ = some k from h)
          exact ⟨EqAt_bool_d b pd2 hu0, RcAt_bool_d b pd2 hu0, RcNeAt_bool_d b pd2 hu0⟩
      | int i t =>
        cases s2 with
        | non =>
          cases (show some _ = some k from h)
          exact ⟨SeqAt.EqAt.int_none i t, SeqAt.RcAt.int_none i t, SeqAt.RcNeAt.int_none i t⟩
        | bl b2 =>
          cases (show some _ = some k from h)
          exact ⟨SeqAt.EqAt.int_bool i t b2, SeqAt.RcAt.int_bool i t b2, SeqAt.RcNeAt.int_bool i t b2⟩
        | int i2 t2 =>
          cases (show some _ = some k from h)
          exact ⟨SeqAt.EqAt.int_int i t i2 t2, SeqAt.RcAt.int_int i t i2 t2, SeqAt.RcNeAt.int_int i t i2 t2⟩
        | str z2 t2 =>
          cases (show some _ = some k from h)
          exact ⟨SeqAt.EqAt.int_str i t z2 t2, SeqAt.RcAt.int_str i t z2 t2, SeqAt.RcNeAt.int_str i t z2 t2⟩
        | @tu lb its2 vs2 ds2 p2 rv2 rs2 =>
          cases (show some _ = some k from h)
          exact ⟨SeqAt.EqAt.int_tuple i t p2 hu0, SeqAt.RcAt.int_tuple i t p2 hu0, SeqAt.RcNeAt.int_tuple i t p2 hu0⟩
        | @li lb its2 vs2 ds2 p2 rv2 rs2 =>
          cases (show some _ = some k from h)
          exact ⟨SeqAt.EqAt.int_list i t p2 hu0, SeqAt.RcAt.int_list i t p2 hu0, SeqAt.RcNeAt.int_list i t p2 hu0⟩
        | @di lb pd2 =>
          cases (show some _ = some k from h)
          exact ⟨EqAt_int_d i t pd2 hu0, RcAt_int_d i t pd2 hu0, RcNeAt_int_d i t pd2 hu0⟩
      | str z t =>
        cases s2 with
        | non =>
          cases (show some _ = some k from h)
          exact ⟨SeqAt.EqAt.str_none z t, SeqAt.RcAt.str_none z t, SeqAt.RcNeAt.str_none z t⟩
        | bl b2 =>
          cases (show some _ = some k from h)
          exact ⟨SeqAt.EqAt.str_bool z t b2, SeqAt.RcAt.str_bool z t b2, SeqAt.RcNeAt.str_bool z t b2⟩
        | int i2 t2 =>
          cases (show some _ = some k from h)
          exact ⟨SeqAt.EqAt.str_int z t i2 t2, SeqAt.RcAt.str_int z t i2 t2, SeqAt.RcNeAt.str_int z t i2 t2⟩
        | str z2 t2 =>
          cases (show some _ = some k from h)
          exact ⟨SeqAt.EqAt.str_str z t z2 t2, SeqAt.RcAt.str_str z t z2 t2, SeqAt.RcNeAt.str_str z t z2 t2⟩
        | @tu lb its2 vs2 ds2 p2 rv2 rs2 =>
          cases (show some _ = some k from h)
          exact ⟨SeqAt.EqAt.str_tuple z t p2 hu0, SeqAt.RcAt.str_tuple z t p2 hu0, SeqAt.RcNeAt.str_tuple z t p2 hu0⟩
        | @li lb its2 vs2 ds2 p2 rv2 rs2 =>
          cases (show some _ = some k from h)
          exact ⟨SeqAt.EqAt.str_list z t p2 hu0, SeqAt.RcAt.str_list z t p2 hu0, SeqAt.RcNeAt.str_list z t p2 hu0⟩
        | @di lb pd2 =>
          cases (show some _ = some k from h)
          exact ⟨EqAt_str_d z t pd2 hu0, RcAt_str_d z t pd2 hu0, RcNeAt_str_d z t pd2 hu0⟩
      | @tu la its1 vs1 ds1 p1 rv1 rs1 =>
        cases s2 with
        | non =>
          cases (show some _ = some k from h)
          exact ⟨SeqAt.EqAt.tuple_none p1 hu0, SeqAt.RcAt.tuple_none p1 hu0, SeqAt.RcNeAt.tuple_none p1 hu0⟩
        | bl b2 =>
          cases (show some _ = some k from h)
          exact ⟨SeqAt.EqAt.tuple_bool b2 p1 hu0, SeqAt.RcAt.tuple_bool b2 p1 hu0, SeqAt.RcNeAt.tuple_bool b2 p1 hu0⟩
        | int i2 t2 =>
          cases (show some _ = some k from h)
          exact ⟨SeqAt.EqAt.tuple_int i2 t2 p1 hu0, SeqAt.RcAt.tuple_int i2 t2 p1 hu0, SeqAt.RcNeAt.tuple_int i2 t2 p1 hu0⟩
        | str z2 t2 =>
          cases (show some _ = some k from h)
          exact ⟨SeqAt.EqAt.tuple_str z2 t2 p1 hu0, SeqAt.RcAt.tuple_str z2 t2 p1 hu0, SeqAt.RcNeAt.tuple_str z2 t2 p1 hu0⟩
        | @tu lb its2 vs2 ds2 p2 rv2 rs2 =>
          obtain ⟨e, q1, q2⟩ := its rv1 rv2 rs1 rs2 (by simpa [eqVw] using h)
          have c1 := SeqAt.RcAt.tuples p1 p2 hu0 q1
          rw [q2] at c1
          have c2 := SeqAt.RcNeAt.tuples p1 p2 hu0 q1
          rw [q2] at c2
          exact ⟨ofRc rfl rfl c1, c1, c2⟩
        | @li lb its2 vs2 ds2 p2 rv2 rs2 =>
          cases (show some _ = some k from h)
          exact ⟨SeqAt.EqAt.tuple_list p1 p2 hu0, SeqAt.RcAt.tuple_list p1 p2 hu0, SeqAt.RcNeAt.tuple_list p1 p2 hu0⟩
        | @di lb pd2 =>
          cases (show some _ = some k from h)
          exact ⟨EqAt_tuple_d p1 pd2 hu0, RcAt_tuple_d p1 pd2 hu0, RcNeAt_tuple_d p1 pd2 hu0⟩
      | @li la its1 vs1 ds1 p1 rv1 rs1 =>
        cases s2 with
        | non =>
          cases (show some _ = some k from h)
          exact ⟨SeqAt.EqAt.list_none p1 hu0, SeqAt.RcAt.list_none p1 hu0, SeqAt.RcNeAt.list_none p1 hu0⟩
        | bl b2 =>
          cases (show some _ = some k from h)
          exact ⟨SeqAt.EqAt.list_bool b2 p1 hu0, SeqAt.RcAt.list_bool b2 p1 hu0, SeqAt.RcNeAt.list_bool b2 p1 hu0⟩
        | int i2 t2 =>
          cases (show some _ = some k from h)
          exact ⟨SeqAt.EqAt.list_int i2 t2 p1 hu0, SeqAt.RcAt.list_int i2 t2 p1 hu0, SeqAt.RcNeAt.list_int i2 t2 p1 hu0⟩
        | str z2 t2 =>
          cases (show some _ = some k from h)
          exact ⟨SeqAt.EqAt.list_str z2 t2 p1 hu0, SeqAt.RcAt.list_str z2 t2 p1 hu0, SeqAt.RcNeAt.list_str z2 t2 p1 hu0⟩
        | @tu lb its2 vs2 ds2 p2 rv2 rs2 =>
          cases (show some _ = some k from h)
          exact ⟨SeqAt.EqAt.list_tuple p1 p2 hu0, SeqAt.RcAt.list_tuple p1 p2 hu0, SeqAt.RcNeAt.list_tuple p1 p2 hu0⟩
        | @li lb its2 vs2 ds2 p2 rv2 rs2 =>
          obtain ⟨e, q1, q2⟩ := its rv1 rv2 rs1 rs2 (by simpa [eqVw] using h)
          by_cases hz : its1.toArray.size = its2.toArray.size
          · have c1 := SeqAt.RcAt.lists p1 p2 hz hu0 q1
            have c2 := SeqAt.RcNeAt.lists p1 p2 hz hu0 q1
            have e3 : (List.range its1.toArray.size).all e = k := by rw [← q2, ← hz]; simp
            rw [e3] at c1 c2
            exact ⟨ofRc rfl rfl c1, c1, c2⟩
          · have hz' : (its1.toArray.size != its2.toArray.size) = true := by simpa using hz
            have e3 : k = false := by
              rw [← q2]
              have : (its1.toArray.size == its2.toArray.size) = false := by simpa using hz
              rw [this, Bool.and_false]
            have c1 : SeqAt.RcAt A st (.ref la) (.ref lb) k := by rw [e3]; exact SeqAt.RcAt.lists_lengths p1 p2 hz' hu0
            have c2 : SeqAt.RcNeAt A st (.ref la) (.ref lb) (!k) := by rw [e3]; exact SeqAt.RcNeAt.lists_lengths p1 p2 hz' hu0
            exact ⟨ofRc rfl rfl c1, c1, c2⟩
        | @di lb pd2 =>
          cases (show some _ = some k from h)
          exact ⟨EqAt_list_d p1 pd2 hu0, RcAt_list_d p1 pd2 hu0, RcNeAt_list_d p1 pd2 hu0⟩
      | @di la pd1 =>
        cases s2 with
        | non =>
          cases (show some _ = some k from h)
          exact ⟨EqAt_d_none pd1 hu0, RcAt_d_none pd1 hu0, RcNeAt_d_none pd1 hu0⟩
        | bl b2 =>
          cases (show some _ = some k from h)
          exact ⟨EqAt_d_bool b2 pd1 hu0, RcAt_d_bool b2 pd1 hu0, RcNeAt_d_bool b2 pd1 hu0⟩
        | int i2 t2 =>
          cases (show some _ = some k from h)
          exact ⟨EqAt_d_int i2 t2 pd1 hu0, RcAt_d_int i2 t2 pd1 hu0, RcNeAt_d_int i2 t2 pd1 hu0⟩
        | str z2 t2 =>
          cases (show some _ = some k from h)
          exact ⟨EqAt_d_str z2 t2 pd1 hu0, RcAt_d_str z2 t2 pd1 hu0, RcNeAt_d_str z2 t2 pd1 hu0⟩
        | @tu lb its2 vs2 ds2 p2 rv2 rs2 =>
          cases (show some _ = some k from h)
          exact ⟨EqAt_d_tuple pd1 p2 hu0, RcAt_d_tuple pd1 p2 hu0, RcNeAt_d_tuple pd1 p2 hu0⟩
        | @li lb its2 vs2 ds2 p2 rv2 rs2 =>
          cases (show some _ = some k from h)
          exact ⟨EqAt_d_list pd1 p2 hu0, RcAt_d_list pd1 p2 hu0, RcNeAt_d_list pd1 p2 hu0⟩
        | @di lb pd2 => simp [eqVw] at h
    · cases h
/-- in, by items -/
def inL (f : D → D → Option Bool) (x : D) : List D → Option Bool
  | [] => some false
  | y :: ys => match f y x, inL f x ys with
    | some a, some b => some (a || b)
    | _, _ => none
theorem in_at (I : Inv X pins σ H st) (hr : HR X.K ad.ca m s H) (hu : X.A.units + 70 < cLine) {v : V} {d : D} {u : Value} (r : RD X.K m H v d) (ru : RelV v u) :
    ∃ e : Value → Bool, ∀ {vs : List V} {ds : List D} {us : List Value} {k : Bool}, RDs X.K m H vs ds → Vals vs us → inL (eqD s 60) d ds = some k → (∀ y ∈ us, SeqAt.EqAt X.A.in1 st y u (e y)) ∧ us.any e = k := by
  classical
  refine ⟨fun y => decide (∃ w c, RelV w y ∧ RD X.K m H w c ∧ eqD s 60 c d = some true), ?_⟩
  intro vs
  induction vs with
  | nil => intro ds us k rs rv h; cases rs; cases rv; simp [inL] at h; subst h; exact ⟨fun y hy => (by cases hy), rfl⟩
  | cons w vs ih =>
    intro ds us k rs rv h
    cases rs with
    | @cons _ c _ cs hc rs =>
      cases rv with
      | @cons _ z _ zs hz rv =>
        unfold inL at h
        split at h
        · rename_i a b ha hb
          cases h
          obtain ⟨i1, i2⟩ := ih rs rv hb
          have e1 : decide (∃ w c, RelV w z ∧ RD X.K m H w c ∧ eqD s 60 c d = some true) = a := by
            cases a with
            | true => exact decide_eq_true ⟨w, c, hz, hc, ha⟩
            | false =>
              refine decide_eq_false ?_
              rintro ⟨w', c', h1, h2, h3⟩
              have := h1.inj hz
              subst this
              rw [rd_uniq I hr h2 hc, ha] at h3
              cases h3
          refine ⟨fun y hy => ?_, ?_⟩
          · rcases List.mem_cons.mp hy with rfl | hy
            · have := (eq_at I hr 60 X.A.in1 (by show X.A.units + 1 + 60 < cLine; omega) hc r hz ru ha).1
              rw [← e1] at this; exact this
            · exact i1 y hy
          · rw [List.any_cons, i2, e1]
        · cases h
end
end T
set_option Elab.async false
set_option linter.all false
set_option maxRecDepth 100000
set_option maxHeartbeats 4000000
/-! TLr: str * int, tuple * int of any small number. -/
namespace T
open PySem PySem.Spec L2
open PyProof.Rows hiding St
theorem tuple_mul1 (l : Addr) (items : Array Value) (n : Nat) (dd : Option Addr) (sl : Array (Option Value)) (x : Int) (u : Tok) (c0 : (decide (x < -(2 ^ 63)) || decide (x ≥ 2 ^ 63)) = false) (c1 : (items.isEmpty || x == 1) = true) :
    Meets (Builtin.«tuple.__mul__» ⟨[.ref l, .int x u], []⟩) (fun _ R s => s.heap.get? l = some { cls := .type "tuple", dict := dd, data := .seq items n, slots := sl } ∧
      R (.ok (.ret (Value.ref l))) s) :=
  .of_wp fun prog w A R s h => by
    obtain ⟨hp, g, d, tk, os⟩ := s
    obtain ⟨hl, h⟩ := h
    have f1 := AutoSeq1.idx_int
    wp_walk using wpAny_loadPart' hl
    repeat (first
      | (refine wpAny_ite_false (decide_eq_false (by rw [c0]; exact Bool.false_ne_true)) ?_; wp_walk using wpAny_loadPart' hl)
      | (refine wpAny_ite_true (decide_eq_true c1) ?_; wp_walk using wpAny_loadPart' hl))
    exact ⟨_, rfl, h⟩
theorem tuple_mul0 (l : Addr) (items : Array Value) (n : Nat) (dd : Option Addr) (sl : Array (Option Value)) (x : Int) (u : Tok) (c0 : (decide (x < -(2 ^ 63)) || decide (x ≥ 2 ^ 63)) = false) (c1 : (items.isEmpty || x == 1) = false) (c2 : (decide (x ≤ 0) || items.isEmpty) = true) :
    Meets (Builtin.«tuple.__mul__» ⟨[.ref l, .int x u], []⟩) (fun _ R s => s.heap.get? l = some { cls := .type "tuple", dict := dd, data := .seq items n, slots := sl } ∧
      R (.ok (.ret (Value.ref s.heap.objs.size))) { s with heap := s.heap.push { cls := Value.type "tuple", data := Data.seq #[] }, toks := s.toks }) :=
  .of_wp fun prog w A R s h => by
    obtain ⟨hp, g, d, tk, os⟩ := s
    obtain ⟨hl, h⟩ := h
    have f1 := AutoSeq1.idx_int
    wp_walk using wpAny_loadPart' hl
    repeat (first
      | (refine wpAny_ite_false (decide_eq_false (by rw [c0]; exact Bool.false_ne_true)) ?_; wp_walk using wpAny_loadPart' hl)
      | (refine wpAny_ite_false (decide_eq_false (by rw [c1]; exact Bool.false_ne_true)) ?_; wp_walk using wpAny_loadPart' hl)
      | (refine wpAny_ite_true (decide_eq_true c2) ?_; wp_walk using wpAny_loadPart' hl))
    exact ⟨_, rfl, h⟩
section
variable {X : Cx}
def rRepA (K : PySem.W.Frag) : R2 := fun x y H Q => ∃ l k xs, x = .ref l ∧ y = .int k ∧ SqT K H l xs ∧ k.natAbs ≤ 1000 ∧ xs.length ≤ 1000 ∧ (xs = [] ∨ k = 1 → Q (.ref l) H) ∧ ∀ p, H p = none → Q (.ref p) (upd H p (.tup (List.replicate k.toNat xs).flatten))
theorem op_repA : OpR X (binaryOp .Mult) (rRepA X.K) := by
  intro pins s σ H x y v u Q I rx ry h
  obtain ⟨l, k, xs, rfl, rfl, hT, h1, hz, qs, q⟩ := h
  by_cases big : xs ≠ [] ∧ 2 ≤ k
  · exact op_repT pins s σ H _ _ v u Q I rx ry ⟨l, k, xs, rfl, rfl, hT, big.1, big.2, by omega, hz, q⟩
  cases rx
  obtain ⟨t, rfl⟩ := ry
  obtain ⟨its, r, ⟨⟨cls, dd, data, sl⟩, ho, hc, n, hd⟩, hs⟩ := I.tuple hT
  simp only at hc hd
  subst hc hd
  have hle : its.length = xs.length := r.length.symm
  have c0 : (decide (k < -(2 ^ 63)) || decide (k ≥ 2 ^ 63)) = false := by
    rw [decide_eq_false (by omega), decide_eq_false (by omega)] <;> rfl
  by_cases same : xs = [] ∨ k = 1
  · have c1 : (its.toArray.isEmpty || k == 1) = true := by
      rcases same with e | e
      · subst e
        have : its = [] := List.eq_nil_of_length_eq_zero (by simpa using hle)
        subst this; rfl
      · subst e; simp
    exact wpAny_binaryOp_repeat_ref (T := "tuple") (U := "int") (by decide) ⟨_, ho, rfl⟩ (fun s' => typeIs_int s' k t) noFill_tuple_mul F.fills_int_mul F.slot_int_rmul repeat_tuple F.slot_int_index.lookup
      (call_meets F.slot_int_rmul (typeIs_int s k t) F.entry_int_rmul (F.args_int_rmul_2 _ _) (int_rmul_tuple k t l its.toArray n dd sl)
        ⟨ho, rfl, ⟨_, ho, rfl⟩, call_meets F.slot_tuple_mul ⟨_, ho, rfl⟩ F.entry_tuple_mul (F.args_tuple_mul_2 _ _) (tuple_mul1 l its.toArray n dd sl k t c0 c1) ⟨ho, ⟨.ref l, H, I, rfl, qs same⟩⟩⟩)
  · have hne : xs ≠ [] := fun e => same (.inl e)
    have k0 : k ≤ 0 := by
      have : k ≠ 1 := fun e => same (.inr e)
      have : ¬ 2 ≤ k := fun e => big ⟨hne, e⟩
      omega
    have hn : its ≠ [] := fun e => hne (by
      rw [e] at hle
      exact List.eq_nil_of_length_eq_zero hle.symm)
    have hi : its.toArray.isEmpty = false := by
      cases its with
      | nil => exact absurd rfl hn
      | cons a b => rfl
    have c1 : (its.toArray.isEmpty || k == 1) = false := by
      rw [hi, Bool.false_or]
      exact beq_eq_false_iff_ne.mpr (by omega)
    have c2 : (decide (k ≤ 0) || its.toArray.isEmpty) = true := by
      rw [decide_eq_true k0]; rfl
    refine wpAny_binaryOp_repeat_ref (T := "tuple") (U := "int") (by decide) ⟨_, ho, rfl⟩ (fun s' => typeIs_int s' k t) noFill_tuple_mul F.fills_int_mul F.slot_int_rmul repeat_tuple F.slot_int_index.lookup
      (call_meets F.slot_int_rmul (typeIs_int s k t) F.entry_int_rmul (F.args_int_rmul_2 _ _) (int_rmul_tuple k t l its.toArray n dd sl)
        ⟨ho, rfl, ⟨_, ho, rfl⟩, call_meets F.slot_tuple_mul ⟨_, ho, rfl⟩ F.entry_tuple_mul (F.args_tuple_mul_2 _ _) (tuple_mul0 l its.toArray n dd sl k t c0 c1 c2) ⟨ho, ?_⟩⟩)
    have e0 : (List.replicate k.toNat xs).flatten = [] := by
      rw [show k.toNat = 0 by omega]; rfl
    rw [e0] at q
    refine ⟨.ref s.heap.objs.size, _, I.laid (t' := s.toks) (o := .tup []) (fun b ob q => Heap.get?_push_of_some _ q) (Nat.le_refl _) ?_, rfl, q _ (I.hok.fresh (Nat.le_refl _))⟩
    exact ⟨Nat.zero_le _, [], .nil, IsTup.new _ _⟩
theorem flat_foldl : ∀ (l : List (Array Nat)) (a : Array Nat), (l.foldl (· ++ ·) a) = (a.toList ++ (l.map (·.toList)).flatten).toArray
  | [], a => by simp
  | x :: l, a => by rw [List.foldl_cons, flat_foldl l (a ++ x)]; simp
def repS (x : Str) (k : Int) : Str := ⟨((List.replicate k.toNat x.cps.toList).flatten).toArray⟩
theorem op_repS : OpR X (binaryOp .Mult) (fun x y H Q => ∃ (z : Str) (k : Int), x = .str z ∧ y = .int k ∧ k.natAbs ≤ 5000 ∧ z.length ≤ 1000 ∧ Q (.str (repS z k)) H) := by
  intro pins s σ H x y v u Q I rx ry h
  obtain ⟨z, k, rfl, rfl, h1, hz, q⟩ := h
  obtain ⟨t, rfl⟩ := rx
  obtain ⟨t', rfl⟩ := ry
  have lb : z.length * k.toNat ≤ 1000 * 5000 := Nat.mul_le_mul hz (by omega)
  refine PySem.P.mul_str ?_ ?_ ?_ ?_
  · rw [decide_eq_false (by omega), decide_eq_false (by omega)]; rfl
  · intro a b c
    have a1 : (1000 : Int) ≤ (2 ^ 63 - 1) / k := Int.le_ediv_of_mul_le (by omega) (by omega)
    omega
  · intro a b
    show decide _ = false
    exact decide_eq_false (by rw [sizeLine_eq]; omega)
  · split
    · rename_i hk
      refine ⟨by decide, ⟨.str (repS z k), H, I.tok _, ⟨s.toks, ?_⟩, q⟩⟩
      unfold repS
      rw [show k.toNat = 0 by omega]; rfl
    · split
      · rename_i hk he
        have e : repS z k = z := by
          unfold repS
          rw [Bool.or_eq_true, beq_iff_eq, beq_iff_eq] at he
          rcases he with he | he
          · subst he; obtain ⟨⟨l⟩⟩ := z; simp
          · obtain ⟨⟨l⟩⟩ := z
            have : l = [] := List.eq_nil_of_length_eq_zero he
            subst this; simp
        rw [e] at q
        exact ⟨.str z, H, I, ⟨t, rfl⟩, q⟩
      · have e : (List.replicate k.toNat z.cps).foldl (· ++ ·) #[] = (repS z k).cps := by
          unfold repS
          rw [flat_foldl]
          simp
        refine ⟨?_, ⟨.str (repS z k), H, I.tok _, ⟨s.toks, by rw [e]⟩, q⟩⟩
        rw [e]
        unfold repS
        show (List.toArray _).size ≤ _
        rw [List.size_toArray, PyProof.Rows.lm_len_rep_flat, sizeLine_eq]
        have : z.cps.toList.length = z.length := rfl
        rw [this]
        have := Nat.mul_comm z.length k.toNat
        omega
end
end T
set_option Elab.async false
set_option linter.all false
set_option maxRecDepth 100000
set_option maxHeartbeats 4000000
/-! TLj: dicts whose keys are ints and texts, on our side. -/
namespace T
open PySem PySem.Spec L2
open PyProof.Rows hiding St
def keyOf : D → Option Key
  | .int i => some (.inl i)
  | .str x => some (.inr x)
  | _ => none
def keyR : Key → D
  | .inl i => .int i
  | .inr x => .str x
section
variable {κ : Type} [DecidableEq κ]
def valD (kvs : List (κ × D)) (k : κ) : Option D := (kvs.find? fun p => decide (p.1 = k)).map (·.2)
def putD (kvs : List (κ × D)) (k : κ) (d : D) : List (κ × D) :=
  if (kvs.any fun p => decide (p.1 = k)) = true then kvs.map (fun p => if p.1 = k then (p.1, d) else p) else kvs ++ [(k, d)]
def dropD (kvs : List (κ × D)) (k : κ) : List (κ × D) := kvs.filter fun p => decide (p.1 ≠ k)
end
def dcAt (s : S) (n : Nat) : Option (List (Key × D)) := match s[n]? with
  | some (.dic kvs) => some kvs
  | _ => none
theorem dcAt_some {s : S} {n : Nat} {kvs : List (Key × D)} (h : dcAt s n = some kvs) : s[n]? = some (.dic kvs) := by
  unfold dcAt at h
  split at h
  · rename_i e; cases h; exact e
  · cases h
/-- a dict that is looked at: locked or not -/
def dcR (s : S) (n : Nat) : Option (List (Key × D)) := match s[n]? with
  | some (.dic kvs) => some kvs
  | some (.fzk kvs) => some kvs
  | _ => none
def dtR (s : S) (n : Nat) : Option (List (List Key × D)) := match s[n]? with
  | some (.dit kvs) => some kvs
  | some (.fzt kvs) => some kvs
  | _ => none
theorem dcR_at {K : PySem.W.Frag} {ca : Nat → Addr} {m : List Addr} {s : S} {H : Hp} {n : Nat} {a : Addr} {kvs : List (Key × D)} (hr : HR K ca m s H) (hn : m[n]? = some a) (h : dcR s n = some kvs) : ∃ kws, Rd H a (.dK kws) ∧ RKs K m H kws kvs := by
  unfold dcR at h
  split at h
  · rename_i e; cases h
    obtain ⟨kws, e1, r⟩ := hr.at_ n a _ hn e
    exact ⟨kws, .inl e1, r⟩
  · rename_i e; cases h
    obtain ⟨od, kws, e1, r⟩ := hr.at_ n a _ hn e
    exact ⟨kws, .inr ⟨od, e1⟩, r⟩
  · cases h
theorem dtR_at {K : PySem.W.Frag} {ca : Nat → Addr} {m : List Addr} {s : S} {H : Hp} {n : Nat} {a : Addr} {kvs : List (List Key × D)} (hr : HR K ca m s H) (hn : m[n]? = some a) (h : dtR s n = some kvs) : ∃ kws, Rd H a (.dT kws) ∧ RTs K m H kws kvs := by
  unfold dtR at h
  split at h
  · rename_i e; cases h
    obtain ⟨kws, e1, r⟩ := hr.at_ n a _ hn e
    exact ⟨kws, .inl e1, r⟩
  · rename_i e; cases h
    obtain ⟨od, kws, e1, r⟩ := hr.at_ n a _ hn e
    exact ⟨kws, .inr ⟨od, e1⟩, r⟩
  · cases h
theorem dcR_of {s : S} {n : Nat} {kvs : List (Key × D)} (h : dcAt s n = some kvs) : dcR s n = some kvs := by unfold dcR; rw [dcAt_some h]
theorem dcAt_of {s : S} {n : Nat} {kvs : List (Key × D)} (h : s[n]? = some (.dic kvs)) : dcAt s n = some kvs := by unfold dcAt; simp only [h]
section
variable {K : PySem.W.Frag} {m : List Addr} {H : Hp} {κ : Type} [DecidableEq κ]
theorem keyOf_rel {v : V} {d : D} {k : Key} (r : RD K m H v d) (h : keyOf d = some k) : v = kV k := by
  cases r <;> cases h <;> rfl
theorem rks_val {ks : List (κ × V)} {ls : List (κ × D)} (r : Paired (fun p q => p.1 = q.1 ∧ RD K m H p.2 q.2) ks ls) (k : κ) :
    (∃ v d, valV ks k = some v ∧ valD ls k = some d ∧ RD K m H v d) ∨ (valV ks k = none ∧ valD ls k = none) := by
  induction r with
  | nil => exact .inr ⟨rfl, rfl⟩
  | @cons p q ps qs h _ ih =>
    obtain ⟨h1, h2⟩ := h
    by_cases e : p.1 = k
    · exact .inl ⟨p.2, q.2, valV_pos e, by simp [valD, List.find?_cons, h1.symm.trans e], h2⟩
    · rw [valV_neg e, show valD (q :: qs) k = valD qs k by simp [valD, List.find?_cons, show ¬ q.1 = k from fun z => e (h1.trans z)]]
      exact ih
theorem rks_any {ks : List (κ × V)} {ls : List (κ × D)} (r : Paired (fun p q => p.1 = q.1 ∧ RD K m H p.2 q.2) ks ls) (k : κ) : (ks.any fun p => decide (p.1 = k)) = ls.any fun p => decide (p.1 = k) := by
  induction r with
  | nil => rfl
  | cons h _ ih => rw [List.any_cons, List.any_cons, ih, h.1]
theorem rks_put {ks : List (κ × V)} {ls : List (κ × D)} (r : Paired (fun p q => p.1 = q.1 ∧ RD K m H p.2 q.2) ks ls) (k : κ) {v : V} {d : D} (rv : RD K m H v d) : Paired (fun p q => p.1 = q.1 ∧ RD K m H p.2 q.2) (putK ks k v) (putD ls k d) := by
  unfold putK putD
  rw [rks_any r k]
  split
  · induction r with
    | nil => exact .nil
    | @cons p q ps qs h _ ih =>
      rw [List.map_cons, List.map_cons]
      refine .cons ?_ ?_
      · by_cases e : p.1 = k
        · rw [if_pos e, if_pos (h.1.symm.trans e)]; exact ⟨h.1, rv⟩
        · rw [if_neg e, if_neg fun z => e (h.1.trans z)]; exact h
      · have aux : ∀ {ps : List (κ × V)} {qs : List (κ × D)}, Paired (fun p q => p.1 = q.1 ∧ RD K m H p.2 q.2) ps qs → Paired (fun p q => p.1 = q.1 ∧ RD K m H p.2 q.2) (ps.map fun kv => if kv.1 = k then (kv.1, v) else kv) (qs.map fun p => if p.1 = k then (p.1, d) else p) := by
          intro ps qs r
          induction r with
          | nil => exact .nil
          | @cons p q ps qs h _ ih =>
            rw [List.map_cons, List.map_cons]
            refine .cons ?_ ih
            by_cases e : p.1 = k
            · rw [if_pos e, if_pos (h.1.symm.trans e)]; exact ⟨h.1, rv⟩
            · rw [if_neg e, if_neg fun z => e (h.1.trans z)]; exact h
        exact aux (by assumption)
  · exact Paired.snoc r ⟨rfl, rv⟩
theorem rks_drop {ks : List (κ × V)} {ls : List (κ × D)} (r : Paired (fun p q => p.1 = q.1 ∧ RD K m H p.2 q.2) ks ls) (k : κ) : Paired (fun p q => p.1 = q.1 ∧ RD K m H p.2 q.2) (dropK ks k) (dropD ls k) := by
  unfold dropK dropD
  induction r with
  | nil => exact .nil
  | @cons p q ps qs h _ ih =>
    by_cases e : p.1 = k
    · rw [List.filter_cons_of_neg (by simp [e]), List.filter_cons_of_neg (by simp [h.1.symm.trans e])]; exact ih
    · rw [List.filter_cons_of_pos (by simp [e]), List.filter_cons_of_pos (by simp [show ¬ q.1 = k from fun z => e (h.1.trans z)])]; exact .cons h ih
theorem rks_len {ks : List (κ × V)} {ls : List (κ × D)} (r : Paired (fun p q => p.1 = q.1 ∧ RD K m H p.2 q.2) ks ls) : ks.length = ls.length := Paired.length r
end
section
variable {X : Cx}
/-- d[k], a dict -/
def rIxK : R2 := fun x y H Q => ∃ a kvs k v, x = .ref a ∧ Rd H a (.dK kvs) ∧ y = kV k ∧ valV kvs k = some v ∧ Q v H
theorem ix_dic (hu : X.A.units + 1 < cLine) : IxR X rIxK := by
  intro value slice pins s σ H x y v u Q I rx ry h hs
  obtain ⟨a, kvs, k, w, rfl, e, rfl, hv, q⟩ := h
  obtain rfl : v = Value.ref a := rx
  have g : DGet H a (kV k) (some w) := .inl ⟨_, k, e, rfl, hv.symm⟩
  exact tail_any (dict_typeIs I g) PySem.F.slot_dict_getitem.lookup (d_getItem hu I g ry fun w' s3 I3 rw' => ⟨w, H, I3, rw', q⟩) hs
def rInK (neg : Bool) : R2 := fun x y H Q => ∃ a kvs k, y = .ref a ∧ Rd H a (.dK kvs) ∧ x = kV k ∧ Q (.bl (if neg then !(valV kvs k).isSome else (valV kvs k).isSome)) H
theorem op_inK (hu : X.A.units + 1 < cLine) : OpR X (compareOp .In) (rInK false) := by
  intro pins s σ H x y v u Q I rx ry h
  obtain ⟨a, kvs, k, rfl, e, rfl, q⟩ := h
  obtain rfl : u = Value.ref a := ry
  exact d_in hu I (.inl ⟨_, k, e, rfl, rfl⟩) rx fun s3 I3 => ⟨.bl (valV kvs k).isSome, H, I3, rfl, q⟩
theorem op_notinK (hu : X.A.units + 1 < cLine) : OpR X (compareOp .NotIn) (rInK true) := by
  intro pins s σ H x y v u Q I rx ry h
  obtain ⟨a, kvs, k, rfl, e, rfl, q⟩ := h
  obtain rfl : u = Value.ref a := ry
  exact d_notIn hu I (.inl ⟨_, k, e, rfl, rfl⟩) rx fun s3 I3 => ⟨.bl (!(valV kvs k).isSome), H, I3, rfl, q⟩
def rSetK : V → V → V → Hp → (Hp → Prop) → Prop := fun o i v H Q => ∃ a kvs k, o = .ref a ∧ H a = some (.dK kvs) ∧ i = kV k ∧ kvs.length < sizeLine ∧ Q (upd H a (.dK (putK kvs k v)))
theorem set_lk (hu : X.A.units + 1 < cLine) : PSet X fun o i v H Q => rSetL o i v H Q ∨ rSetK o i v H Q := by
  intro pins s σ H o i v ov iv u Q I ro ri rv h
  rcases h with h | ⟨a, kvs, k, rfl, e, rfl, hl, q⟩
  · exact set_list pins s σ H o i v ov iv u Q I ro ri rv h
  · exact set_dict hu pins s σ H _ _ v ov iv u Q I ro ri rv ⟨a, _, rfl, DPut.k e hl, q⟩
end
end T
set_option Elab.async false
set_option linter.all false
set_option maxRecDepth 100000
set_option maxHeartbeats 4000000
/-! TLc: the operations by values. -/
namespace T
open PySem PySem.Spec L2
open PyProof.Rows hiding St
inductive BOp where
  | add | sub | mul | fdiv | mod | pow
inductive COp where
  | lt | le | gt | ge | eq | ne | is_ | isnot | in_ | notin | nek
def lsAt (s : S) (n : Nat) : Option (List D) := match s[n]? with
  | some (.lst ds) => some ds
  | _ => none
def add2 (a b : D) (s : S) : Option (D × S) := match a, b with
  | .int i, .int j => some (.int (i + j), s)
  | .str x, .str y => if x.length + y.length ≤ 1000000 then some (.str (x ++ y), s) else none
  | .tup xs, .tup ys => if xs.length + ys.length ≤ 1000000 then some (.tup (xs ++ ys), s) else none
  | .ref n, .ref k => match lsAt s n, lsAt s k with
    | some xs, some ys => mkL (xs ++ ys) s
    | _, _ => none
  | .ref n, .rol ys => match lsAt s n with
    | some xs => mkL (xs ++ ys) s
    | none => none
  | .rol xs, .ref k => match lsAt s k with
    | some ys => mkL (xs ++ ys) s
    | none => none
  | _, _ => none
def sub2 (a b : D) (s : S) : Option (D × S) := match a, b with
  | .int i, .int j => some (.int (i - j), s)
  | _, _ => none
def sm (i : Int) : Bool := decide (i.natAbs < 2 ^ 1000)
def mul2 (a b : D) (s : S) : Option (D × S) := match a, b with
  | .int i, .int j => if decide (-(2 ^ 64) < i ∧ i < 2 ^ 64) || decide (-(2 ^ 64) < j ∧ j < 2 ^ 64) || (sm i && sm j) then some (.int (i * j), s) else none
  | .ref n, .int k => match lsAt s n with
    | some xs => if k < 1000000 ∧ xs.length * k.toNat ≤ 1000000 ∧ 0 ≤ k then mkL (List.replicate k.toNat xs).flatten s else none
    | none => none
  | .str x, .int k => if k.natAbs ≤ 5000 ∧ x.length ≤ 1000 then some (.str (repS x k), s) else none
  | .tup xs, .int k => if k.natAbs ≤ 1000 ∧ xs.length ≤ 1000 then some (.tup (List.replicate k.toNat xs).flatten, s) else none
  | _, _ => none
def fdiv2 (a b : D) (s : S) : Option (D × S) := match a, b with
  | .int i, .int j => if 0 < j ∧ sm j then some (.int (i / j), s) else none
  | _, _ => none
def mod2 (a b : D) (s : S) : Option (D × S) := match a, b with
  | .int i, .int j => if 0 < j then some (.int (i % j), s) else none
  | _, _ => none
def pow2 (a b : D) (s : S) : Option (D × S) := match a, b with
  | .int i, .int j => if 0 ≤ j ∧ j ≤ 1000000 ∧ i.natAbs < 2 ^ 64 then some (.int (i ^ j.toNat), s) else none
  | _, _ => none
def bop : BOp → D → D → S → Option (D × S)
  | .add => add2 | .sub => sub2 | .mul => mul2 | .fdiv => fdiv2 | .mod => mod2 | .pow => pow2
def BOp.op : BOp → Operator
  | .add => .Add | .sub => .Sub | .mul => .Mult | .fdiv => .FloorDiv | .mod => .Mod | .pow => .Pow
def cmpI (f : Int → Int → Bool) (g : List Nat → List Nat → Bool) (a b : D) (s : S) : Option (D × S) := match a, b with
  | .int i, .int j => some (.bl (f i j), s)
  | .str x, .str y => some (.bl (g x.cps.toList y.cps.toList), s)
  | _, _ => none
def bOf (k : Option Bool) (s : S) : Option (D × S) := match k with
  | some b => some (.bl b, s)
  | none => none
def isNon : D → Bool
  | .non => true
  | _ => false
def is2 (neg : Bool) (a b : D) (s : S) : Option (D × S) := match b with
  | .non => some (.bl (if neg then !isNon a else isNon a), s)
  | .bl y => match a with
    | .bl x => some (.bl (if neg then !decide (x = y) else decide (x = y)), s)
    | _ => none
  | _ => none
def in2 (neg : Bool) (a b : D) (s : S) : Option (D × S) := match b with
  | .str z => match a with
    | .str x => match x.cps.toList with
      | [c] => some (.bl (if neg then !decide (c ∈ z.cps.toList) else decide (c ∈ z.cps.toList)), s)
      | _ => none
    | _ => none
  | .tup ds => (bOf (inL (eqD s 60) a ds) s).map fun p => if neg then (match p.1 with | .bl k => .bl (!k) | d => d, s) else p
  | .rol ds => (bOf (inL (eqD s 60) a ds) s).map fun p => if neg then (match p.1 with | .bl k => .bl (!k) | d => d, s) else p
  | .ref n => match lsAt s n with
    | some ds => (bOf (inL (eqD s 60) a ds) s).map fun p => if neg then (match p.1 with | .bl k => .bl (!k) | d => d, s) else p
    | none => match dcR s n, keyOf a with
      | some kvs, some k => some (.bl (if neg then !(valD kvs k).isSome else (valD kvs k).isSome), s)
      | _, _ => none
  | _ => none
/-- != of two dicts of flat values; only of such as are equal -/
def sameF : D → D → Bool
  | .int i, .int j => i == j
  | .str x, .str y => x == y
  | .bl x, .bl y => x == y
  | .non, .non => true
  | _, _ => false
def sameKv (ka kb : List (Key × D)) : Bool := ka.length == kb.length && ka.all fun p => match valD kb p.1 with
  | some d => sameF p.2 d
  | none => false
def nekD (a b : D) (s : S) : Option (D × S) := match a, b with
  | .ref n, .ref k => match dcAt s n, dcAt s k with
    | some ka, some kb => if sameKv ka kb then some (.bl false, s) else none
    | _, _ => none
  | _, _ => none
def cop : COp → D → D → S → Option (D × S)
  | .lt => cmpI (fun i j => decide (i < j)) fun x y => decide (x < y)
  | .le => cmpI (fun i j => decide (i ≤ j)) fun x y => !decide (y < x)
  | .gt => cmpI (fun i j => decide (j < i)) fun x y => decide (y < x)
  | .ge => cmpI (fun i j => decide (j ≤ i)) fun x y => !decide (x < y)
  | .eq => fun a b s => bOf (eqD s 60 a b) s
  | .ne => fun a b s => bOf ((eqD s 60 a b).map (!·)) s
  | .is_ => is2 false
  | .isnot => is2 true
  | .in_ => in2 false
  | .notin => in2 true
  | .nek => nekD
def COp.op : COp → CmpOp
  | .lt => .Lt | .le => .LtE | .gt => .Gt | .ge => .GtE | .eq => .Eq | .ne => .NotEq | .is_ => .Is | .isnot => .IsNot | .in_ => .In | .notin => .NotIn | .nek => .NotEq
section
variable {X : Cx} {ad : Ad}
theorem lsAt_some {s : S} {n : Nat} {ds : List D} (h : lsAt s n = some ds) : s[n]? = some (.lst ds) := by
  unfold lsAt at h
  split at h
  · rename_i e; cases h; exact e
  · cases h
theorem HR.lst {K : PySem.W.Frag} {ca : Nat → Addr} {m : List Addr} {s : S} {H : Hp} (hr : HR K ca m s H) {n : Nat} {a : Addr} {ds : List D} (hn : m[n]? = some a) (h : lsAt s n = some ds) : ∃ vs, H a = some (.lst vs) ∧ RDs K m H vs ds := hr.at_ n a _ hn (lsAt_some h)
theorem sm_log {j : Int} (h : sm j = true) : j.natAbs.log2 < 1000 := by
  unfold sm at h
  exact PySem.Flt.log2_lt_of (by decide) (of_decide_eq_true h)
/-- a list and a list, of which the second may have slots -/
theorem cat_sl {p q : Addr} {us ws : Array Value} {i j : Nat} {g : Array (Option Value)} (hz : us.size + ws.size ≤ sizeLine) :
    Meets (Builtin.«list.__add__» ⟨[.ref p, .ref q], []⟩) fun _ R st =>
      st.heap.get? p = some { cls := .type "list", data := .seq us i } ∧
      st.heap.get? q = some { cls := .type "list", data := .seq ws j, slots := g } ∧
      R (.ok (.ret (.ref st.heap.objs.size))) { st with heap := st.heap.push { cls := .type "list", data := .seq (us ++ ws) } } := by
  refine .of_wp fun _ _ _ R st hh => ?_
  obtain ⟨H, G0, dr, tk, os⟩ := st
  obtain ⟨hp, hq, hr⟩ := hh
  have e1 := sub_list_list
  have e2 := sub_tuple_list
  have e3 := sub_list_tuple
  wp_walk using wpAny_loadPart' hp, wpAny_loadPart' hq
  exact ⟨_, rfl, hr⟩
/-- a list and a list, the second one maybe the caller's -/
def rCat2 (K : PySem.W.Frag) : R2 := fun x y H Q => ∃ a b vs ws, x = .ref a ∧ y = .ref b ∧ H a = some (.lst vs) ∧ SqL K H b ws ∧ vs.length + ws.length ≤ sizeLine ∧ ∀ p, H p = none → Q (.ref p) (upd H p (.lst (vs ++ ws)))
theorem op_cat2 : OpR X (binaryOp .Add) (rCat2 X.K) := by
  intro pins st σ H x y v u Q I rx ry ⟨a, b, vs, ws, hx, hy, h1, h2, hz, q⟩
  subst hx hy
  cases rx; cases ry
  obtain ⟨_, its, n, r1, l1, e1⟩ := I.lstM h1
  obtain ⟨jts, r2, ⟨⟨cls, dd, data, sl⟩, n2, ho, hc, hdn, hdt⟩, _⟩ := I.list h2
  simp only at hc hdn hdt
  subst hc hdn hdt
  have l2 := r2.length
  refine concat_meets (T := "list") (id := "list.__add__") ⟨_, e1, rfl⟩ ⟨_, ho, rfl⟩ noFill_list_add seq_list_add F.slot_list_add F.entry_list_add (F.args_list_add_2 _ _) (cat_sl (i := n) (j := n2) (g := sl) (us := its.toArray) (ws := jts.toArray) (by rw [List.size_toArray, List.size_toArray]; omega)) ⟨e1, ho, ?_⟩
  rw [show its.toArray ++ jts.toArray = (its ++ jts).toArray by simp]
  exact ⟨.ref _, _, I.lnew (t' := st.toks) (r1.append r2) (by rw [List.length_append]; omega), rfl, q _ I.fresh⟩
theorem cat_sl2 {p q : Addr} {us ws : Array Value} {i j : Nat} {g : Array (Option Value)} (hz : us.size + ws.size ≤ sizeLine) :
    Meets (Builtin.«list.__add__» ⟨[.ref p, .ref q], []⟩) fun _ R st =>
      st.heap.get? p = some { cls := .type "list", data := .seq us i, slots := g } ∧
      st.heap.get? q = some { cls := .type "list", data := .seq ws j } ∧
      R (.ok (.ret (.ref st.heap.objs.size))) { st with heap := st.heap.push { cls := .type "list", data := .seq (us ++ ws) } } := by
  refine .of_wp fun _ _ _ R st hh => ?_
  obtain ⟨H, G0, dr, tk, os⟩ := st
  obtain ⟨hp, hq, hr⟩ := hh
  have e1 := sub_list_list
  have e2 := sub_tuple_list
  have e3 := sub_list_tuple
  wp_walk using wpAny_loadPart' hp, wpAny_loadPart' hq
  exact ⟨_, rfl, hr⟩
/-- a list and a list, the first one maybe the caller's -/
def rCat3 (K : PySem.W.Frag) : R2 := fun x y H Q => ∃ a b vs ws, x = .ref a ∧ y = .ref b ∧ SqL K H a vs ∧ H b = some (.lst ws) ∧ vs.length + ws.length ≤ sizeLine ∧ ∀ p, H p = none → Q (.ref p) (upd H p (.lst (vs ++ ws)))
theorem op_cat3 : OpR X (binaryOp .Add) (rCat3 X.K) := by
  intro pins st σ H x y v u Q I rx ry ⟨a, b, vs, ws, hx, hy, h1, h2, hz, q⟩
  subst hx hy
  cases rx; cases ry
  obtain ⟨_, jts, n, r1, l1, e1⟩ := I.lstM h2
  obtain ⟨its, r2, ⟨⟨cls, dd, data, sl⟩, n2, ho, hc, hdn, hdt⟩, _⟩ := I.list h1
  simp only at hc hdn hdt
  subst hc hdn hdt
  have l2 := r2.length
  refine concat_meets (T := "list") (id := "list.__add__") ⟨_, ho, rfl⟩ ⟨_, e1, rfl⟩ noFill_list_add seq_list_add F.slot_list_add F.entry_list_add (F.args_list_add_2 _ _) (cat_sl2 (i := n2) (j := n) (g := sl) (us := its.toArray) (ws := jts.toArray) (by rw [List.size_toArray, List.size_toArray]; omega)) ⟨ho, e1, ?_⟩
  rw [show its.toArray ++ jts.toArray = (its ++ jts).toArray by simp]
  exact ⟨.ref _, _, I.lnew (t' := st.toks) (r2.append r1) (by rw [List.length_append]; omega), rfl, q _ I.fresh⟩
theorem o_add : OpR X (binaryOp .Add) (L2R X.K ad add2) := by
  intro pins st σ H x y v u Q I rx ry ⟨m, s, d, e, hr, r1, r2, h⟩
  cases r1 with
  | int i => cases r2 with
    | int j => exact op_add pins st σ H _ _ v u Q I rx ry ⟨i, j, rfl, rfl, h m H _ .refl hr (.int _)⟩
    | _ => exact h.elim
  | str i => cases r2 with
    | str j =>
      simp only [add2] at h
      split at h
      · rename_i hl; exact op_add_str pins st σ H _ _ v u Q I rx ry ⟨i, j, rfl, rfl, lim hl, h m H _ .refl hr (.str _)⟩
      · exact h.elim
    | _ => exact h.elim
  | @tup a vs ds q1 s1 => cases r2 with
    | @tup b ws es q2 s2 =>
      simp only [add2] at h
      split at h
      · rename_i hl
        refine op_catA pins st σ H _ _ v u Q I rx ry ⟨a, b, vs, ws, rfl, rfl, q1, q2, by rw [s1.length, s2.length]; exact lim hl, fun e => ?_, fun _ e => ?_, fun _ _ => new_tup hr (s1.append s2) h⟩
        · subst e; cases s1; exact h m H _ .refl hr (.tup q2 s2)
        · subst e; cases s2; rw [List.append_nil] at h; exact h m H _ .refl hr (.tup q1 s1)
      · exact h.elim
    | _ => exact h.elim
  | @ref a n hn => cases r2 with
    | @ref b k hk =>
      simp only [add2] at h
      split at h
      · rename_i xs ys h1 h2
        obtain ⟨vs, e1, s1⟩ := hr.lst hn h1
        obtain ⟨ws, e2, s2⟩ := hr.lst hk h2
        unfold mkL at h
        split at h
        · rename_i hl
          rw [List.length_append] at hl
          exact op_cat pins st σ H _ _ v u Q I rx ry ⟨a, b, vs, ws, rfl, rfl, e1, e2, by rw [s1.length, s2.length]; exact lim hl, new_lst hr (s1.append s2) h⟩
        · exact h.elim
      · exact h.elim
    | @rol b ws ys q2 s2 =>
      simp only [add2] at h
      split at h
      · rename_i xs h1
        obtain ⟨vs, e1, s1⟩ := hr.lst hn h1
        unfold mkL at h
        split at h
        · rename_i hl
          rw [List.length_append] at hl
          exact op_cat2 pins st σ H _ _ v u Q I rx ry ⟨a, b, vs, ws, rfl, rfl, e1, q2.sql, by rw [s1.length, s2.length]; exact lim hl, new_lst hr (s1.append s2) h⟩
        · exact h.elim
      · exact h.elim
    | _ => exact h.elim
  | @rol a vs xs q1 s1 => cases r2 with
    | @ref b k hk =>
      simp only [add2] at h
      split at h
      · rename_i ys h1
        obtain ⟨ws, e1, s2⟩ := hr.lst hk h1
        unfold mkL at h
        split at h
        · rename_i hl
          rw [List.length_append] at hl
          exact op_cat3 pins st σ H _ _ v u Q I rx ry ⟨a, b, vs, ws, rfl, rfl, q1.sql, e1, by rw [s1.length, s2.length]; exact lim hl, new_lst hr (s1.append s2) h⟩
        · exact h.elim
      · exact h.elim
    | _ => exact h.elim
  | _ => exact h.elim
theorem o_int2 {op : Operator} {C : Int → Int → Prop} {g : Int → Int → Int} {f : D → D → S → Option (D × S)} (ho : OpR X (binaryOp op) (rI C fun i j => .int (g i j)))
    (hf : ∀ a b s, (∃ i j, a = .int i ∧ b = .int j ∧ C i j ∧ f a b s = some (.int (g i j), s)) ∨ f a b s = none) : OpR X (binaryOp op) (L2R X.K ad f) := by
  intro pins st σ H x y v u Q I rx ry ⟨m, s, d, e, hr, r1, r2, h⟩
  rcases hf d e s with ⟨i, j, rfl, rfl, hc, hfe⟩ | hfe
  · rw [hfe] at h
    cases r1; cases r2
    exact ho pins st σ H _ _ v u Q I rx ry ⟨i, j, rfl, rfl, hc, h m H _ .refl hr (.int _)⟩
  · rw [hfe] at h; exact h.elim
theorem o_sub : OpR X (binaryOp .Sub) (L2R X.K ad sub2) := o_int2 (C := fun _ _ => True) (g := fun i j => i - j) (opI fun _ _ _ _ _ _ _ _ q => PyProof.Rows.sub_int q) fun a b s => by
  cases a <;> cases b <;> simp [sub2]
theorem o_fdiv : OpR X (binaryOp .FloorDiv) (L2R X.K ad fdiv2) := o_int2 op_fdivW fun a b s => by
  cases a <;> cases b <;> simp [fdiv2]
  rename_i i j
  by_cases c : 0 < j ∧ sm j = true
  · exact .inl ⟨⟨c.1, by have := sm_log c.2; omega⟩, c.1, c.2⟩
  · exact .inr fun h => by simpa using fun z => c ⟨h, z⟩
theorem o_mod : OpR X (binaryOp .Mod) (L2R X.K ad mod2) := o_int2 op_mod fun a b s => by
  cases a <;> cases b <;> simp [mod2]
  rename_i i j
  by_cases c : 0 < j
  · exact .inl c
  · exact .inr (by omega)
theorem o_pow : OpR X (binaryOp .Pow) (L2R X.K ad pow2) := o_int2 op_pow fun a b s => by
  cases a <;> cases b <;> simp only [pow2]
  all_goals first | exact .inr trivial | exact .inr rfl | skip
  rename_i i j
  by_cases c : 0 ≤ j ∧ j ≤ 1000000 ∧ i.natAbs < 2 ^ 64
  · exact .inl ⟨i, j, rfl, rfl, c, if_pos c⟩
  · exact .inr (if_neg c)
theorem o_mul : OpR X (binaryOp .Mult) (L2R X.K ad mul2) := by
  intro pins st σ H x y v u Q I rx ry ⟨m, s, d, e, hr, r1, r2, h⟩
  cases r1 with
  | int i => cases r2 with
    | int j =>
      simp only [mul2] at h
      split at h
      · rename_i hc
        have q := h m H _ .refl hr (.int _)
        simp only [Bool.or_eq_true, Bool.and_eq_true, decide_eq_true_eq] at hc
        rcases hc with (hc | hc) | hc
        · exact op_mul pins st σ H _ _ v u Q I rx ry ⟨i, j, rfl, rfl, .inl hc, q⟩
        · exact op_mul pins st σ H _ _ v u Q I rx ry ⟨i, j, rfl, rfl, .inr hc, q⟩
        · refine op_mulW pins st σ H _ _ v u Q I rx ry ⟨i, j, rfl, rfl, ?_, q⟩
          have h1 := sm_log hc.1
          have h2 := sm_log hc.2
          show i.natAbs.log2 + j.natAbs.log2 < 1000000
          omega
      · exact h.elim
    | _ => exact h.elim
  | @ref a n hn => cases r2 with
    | int k =>
      simp only [mul2] at h
      split at h
      · rename_i xs h1
        split at h
        · rename_i hc
          obtain ⟨vs, e1, s1⟩ := hr.lst hn h1
          unfold mkL at h
          split at h
          · have rep : ∀ n : Nat, RDs X.K m H (List.replicate n vs).flatten (List.replicate n xs).flatten := by
              intro n
              induction n with
              | zero => exact .nil
              | succ n ih => rw [List.replicate_succ, List.replicate_succ, List.flatten_cons, List.flatten_cons]; exact s1.append ih
            exact op_rep pins st σ H _ _ v u Q I rx ry ⟨a, k, vs, rfl, rfl, e1, by omega, by omega, by rw [s1.length]; exact lim hc.2.1, new_lst hr (rep _) h⟩
          · exact h.elim
        · exact h.elim
      · exact h.elim
    | _ => exact h.elim
  | str z => cases r2 with
    | int k =>
      simp only [mul2] at h
      split at h
      · rename_i hc
        exact op_repS pins st σ H _ _ v u Q I rx ry ⟨z, k, rfl, rfl, hc.1, hc.2, h m H _ .refl hr (.str _)⟩
      · exact h.elim
    | _ => exact h.elim
  | @tup a vs ds q1 s1 => cases r2 with
    | int k =>
      simp only [mul2] at h
      split at h
      · rename_i hc
        have rep : ∀ n : Nat, RDs X.K m H (List.replicate n vs).flatten (List.replicate n ds).flatten := by
          intro n
          induction n with
          | zero => exact .nil
          | succ n ih => rw [List.replicate_succ, List.replicate_succ, List.flatten_cons, List.flatten_cons]; exact s1.append ih
        refine op_repA pins st σ H _ _ v u Q I rx ry ⟨a, k, vs, rfl, rfl, q1, hc.1, by rw [s1.length]; exact hc.2, fun e => ?_, new_tup hr (rep _) h⟩
        have e1 : (List.replicate k.toNat ds).flatten = ds := by
          rcases e with e | e
          · subst e; cases s1; simp
          · subst e; simp
        rw [e1] at h
        exact h m H _ .refl hr (.tup q1 s1)
      · exact h.elim
    | _ => exact h.elim
  | _ => exact h.elim
theorem o_bop (b : BOp) : OpR X (binaryOp b.op) (L2R X.K ad (bop b)) := by
  cases b
  · exact o_add
  · exact o_sub
  · exact o_mul
  · exact o_fdiv
  · exact o_mod
  · exact o_pow
theorem o_cmpI {op : CmpOp} {f : Int → Int → Bool} {g : List Nat → List Nat → Bool} (ho : OpR X (compareOp op) (rI0 fun i j => .bl (f i j))) (hs : OpR X (compareOp op) (fun x y H Q => ∃ i j : Str, x = .str i ∧ y = .str j ∧ Q (.bl (g i.cps.toList j.cps.toList)) H)) :
    OpR X (compareOp op) (L2R X.K ad (cmpI f g)) := by
  intro pins st σ H x y v u Q I rx ry ⟨m, s, d, e, hr, r1, r2, h⟩
  cases r1 with
  | int i => cases r2 with
    | int j => exact ho pins st σ H _ _ v u Q I rx ry ⟨i, j, rfl, rfl, h m H _ .refl hr (.bl _)⟩
    | _ => exact h.elim
  | str i => cases r2 with
    | str j => exact hs pins st σ H _ _ v u Q I rx ry ⟨i, j, rfl, rfl, h m H _ .refl hr (.bl _)⟩
    | _ => exact h.elim
  | tup _ _ => exact h.elim
  | rol _ _ => exact h.elim
  | ref _ => exact h.elim
  | _ => exact h.elim
theorem o_eq (hu : X.A.units + 100 < cLine) : OpR X (compareOp .Eq) (L2R X.K ad fun a b s => bOf (eqD s 60 a b) s) := by
  intro pins st σ H x y v u Q I rx ry ⟨m, s, d, e, hr, r1, r2, h⟩
  dsimp only at h
  cases hk : eqD s 60 d e with
  | none => rw [hk] at h; exact h.elim
  | some k =>
    rw [hk] at h
    exact (eq_at I hr 60 X.A (by omega) r1 r2 rx ry hk).2.1 X.prog X.w X.xe _ ⟨.bl k, H, I, rfl, h m H _ .refl hr (.bl _)⟩
theorem o_ne (hu : X.A.units + 100 < cLine) : OpR X (compareOp .NotEq) (L2R X.K ad fun a b s => bOf ((eqD s 60 a b).map (!·)) s) := by
  intro pins st σ H x y v u Q I rx ry ⟨m, s, d, e, hr, r1, r2, h⟩
  dsimp only at h
  cases hk : eqD s 60 d e with
  | none => rw [hk] at h; exact h.elim
  | some k =>
    rw [hk] at h
    exact (eq_at I hr 60 X.A (by omega) r1 r2 rx ry hk).2.2 X.prog X.w X.xe _ ⟨.bl (!k), H, I, rfl, h m H _ .refl hr (.bl _)⟩
theorem RD.isNon {K : PySem.W.Frag} {m : List Addr} {H : Hp} {v : V} {d : D} (r : RD K m H v d) : decide (v = .non) = T.isNon d := by
  cases r <;> rfl
theorem o_is : OpR X (compareOp .Is) (L2R X.K ad (is2 false)) := by
  intro pins st σ H x y v u Q I rx ry ⟨m, s, d, e, hr, r1, r2, h⟩
  cases r2 with
  | non =>
    have q := h m H _ .refl hr (.bl _)
    exact op_isN pins st σ H _ _ v u Q I rx ry ⟨rfl, by rw [r1.isNon]; exact q⟩
  | bl b => cases r1 with
    | bl a => exact op_isBl pins st σ H _ _ v u Q I rx ry ⟨a, b, rfl, rfl, h m H _ .refl hr (.bl _)⟩
    | _ => exact h.elim
  | tup _ _ => exact h.elim
  | rol _ _ => exact h.elim
  | ref _ => exact h.elim
  | _ => exact h.elim
theorem o_isnot : OpR X (compareOp .IsNot) (L2R X.K ad (is2 true)) := by
  intro pins st σ H x y v u Q I rx ry ⟨m, s, d, e, hr, r1, r2, h⟩
  cases r2 with
  | non =>
    have q := h m H _ .refl hr (.bl _)
    exact op_notN pins st σ H _ _ v u Q I rx ry ⟨rfl, by rw [r1.isNon]; exact q⟩
  | bl b => cases r1 with
    | bl a => exact op_notBl pins st σ H _ _ v u Q I rx ry ⟨a, b, rfl, rfl, h m H _ .refl hr (.bl _)⟩
    | _ => exact h.elim
  | tup _ _ => exact h.elim
  | rol _ _ => exact h.elim
  | ref _ => exact h.elim
  | _ => exact h.elim
theorem one_sign {x : Str} {c : Nat} (h : x.cps.toList = [c]) : x = ⟨#[c]⟩ := by
  obtain ⟨⟨l⟩⟩ := x
  simp at h
  subst h; rfl
theorem o_in (hu : X.A.units + 100 < cLine) : OpR X (compareOp .In) (L2R X.K ad (in2 false)) := by
  intro pins st σ H x y v u Q I rx ry ⟨m, s, d, e, hr, r1, r2, h⟩
  have seqs : ∀ {ds : List D} {vs : List V} {a : Addr} , RDs X.K m H vs ds → (SqL X.K H a vs ∨ SqT X.K H a vs) → u = .ref a → Out X.K ad (fun _ _ _ _ => False) [] m H (RD X.K) Q (R.of (bOf (inL (eqD s 60) d ds) s)) →
      wpAny (model X.prog X.w) X.A (compareOp .In v u) (EP X pins σ Q) X.xe st := by
    intro ds vs a rs hq eu h
    subst eu
    cases hk : inL (eqD s 60) d ds with
    | none => rw [hk] at h; exact h.elim
    | some k =>
      rw [hk] at h
      have q := h m H _ .refl hr (.bl _)
      obtain ⟨f, hf⟩ := in_at I hr (by omega) r1 rx
      rcases hq with hq | hq
      · obtain ⟨its, rv, pl, _⟩ := I.list hq
        obtain ⟨h1, h2⟩ := hf rs rv hk
        refine SeqAt.in_listAt f pl.isList (fun y hy => h1 y (by simpa using hy)) ⟨.bl k, H, I, ?_, q⟩
        rw [show its.toArray.any f = its.any f by simp, h2]; rfl
      · obtain ⟨its, rv, pl, _⟩ := I.tuple hq
        obtain ⟨h1, h2⟩ := hf rs rv hk
        refine SeqAt.in_tupleAt f pl (fun y hy => h1 y (by simpa using hy)) ⟨.bl k, H, I, ?_, q⟩
        rw [show its.toArray.any f = its.any f by simp, h2]; rfl
  cases r2 with
  | str z => cases r1 with
    | str x =>
      simp only [in2] at h
      split at h
      · rename_i c hc
        have := one_sign hc
        subst this
        exact op_in_sign pins st σ H _ _ v u Q I rx ry ⟨c, z, rfl, rfl, h m H _ .refl hr (.bl _)⟩
      · exact h.elim
    | _ => exact h.elim
  | tup q rs => cases ry; refine seqs rs (.inr q) rfl ?_; simpa [in2] using h
  | rol q rs => cases ry; refine seqs rs (.inl q.sql) rfl ?_; simpa [in2] using h
  | @ref a n hn =>
    simp only [in2] at h
    split at h
    · rename_i ds hd
      obtain ⟨vs, e1, s1⟩ := hr.lst hn hd
      cases ry
      refine seqs s1 (.inl (SqL.of e1)) rfl ?_
      simpa using h
    · split at h
      · rename_i kvs k hd hk
        obtain ⟨kws, e1, s1⟩ := dcR_at hr hn hd
        have hv : (valV kws k).isSome = (valD kvs k).isSome := by
          rcases rks_val s1 k with ⟨_, _, z1, z2, _⟩ | ⟨z1, z2⟩ <;> (rw [z1, z2]; try rfl)
        exact op_inK (by omega) pins st σ H _ _ v u Q I rx ry ⟨a, kws, k, rfl, e1, keyOf_rel r1 hk, by rw [hv]; exact h m H _ .refl hr (.bl _)⟩
      · exact h.elim
  | _ => exact h.elim
theorem o_notin (hu : X.A.units + 100 < cLine) : OpR X (compareOp .NotIn) (L2R X.K ad (in2 true)) := by
  intro pins st σ H x y v u Q I rx ry ⟨m, s, d, e, hr, r1, r2, h⟩
  have seqs : ∀ {ds : List D} {vs : List V} {a : Addr} , RDs X.K m H vs ds → (SqL X.K H a vs ∨ SqT X.K H a vs) → u = .ref a → Out X.K ad (fun _ _ _ _ => False) [] m H (RD X.K) Q (R.of (bOf ((inL (eqD s 60) d ds).map (!·)) s)) →
      wpAny (model X.prog X.w) X.A (compareOp .NotIn v u) (EP X pins σ Q) X.xe st := by
    intro ds vs a rs hq eu h
    subst eu
    cases hk : inL (eqD s 60) d ds with
    | none => rw [hk] at h; exact h.elim
    | some k =>
      rw [hk] at h
      have q := h m H _ .refl hr (.bl _)
      obtain ⟨f, hf⟩ := in_at I hr (by omega) r1 rx
      rcases hq with hq | hq
      · obtain ⟨its, rv, pl, _⟩ := I.list hq
        obtain ⟨h1, h2⟩ := hf rs rv hk
        refine SeqAt.notIn_listAt f pl.isList (fun y hy => h1 y (by simpa using hy)) ⟨.bl (!k), H, I, ?_, q⟩
        rw [show its.toArray.any f = its.any f by simp, h2]; rfl
      · obtain ⟨its, rv, pl, _⟩ := I.tuple hq
        obtain ⟨h1, h2⟩ := hf rs rv hk
        refine SeqAt.notIn_tupleAt f pl (fun y hy => h1 y (by simpa using hy)) ⟨.bl (!k), H, I, ?_, q⟩
        rw [show its.toArray.any f = its.any f by simp, h2]; rfl
  have conv : ∀ ds : List D, (bOf (inL (eqD s 60) d ds) s).map (fun p => if true then (match p.1 with | .bl k => D.bl (!k) | d => d, s) else p) = bOf ((inL (eqD s 60) d ds).map (!·)) s := by
    intro ds
    cases inL (eqD s 60) d ds <;> rfl
  cases r2 with
  | str z => cases r1 with
    | str x =>
      simp only [in2] at h
      split at h
      · rename_i c hc
        have := one_sign hc
        subst this
        exact op_notIn_sign pins st σ H _ _ v u Q I rx ry ⟨c, z, rfl, rfl, h m H _ .refl hr (.bl _)⟩
      · exact h.elim
    | _ => exact h.elim
  | tup q rs => cases ry; refine seqs rs (.inr q) rfl ?_; rw [← conv]; exact h
  | rol q rs => cases ry; refine seqs rs (.inl q.sql) rfl ?_; rw [← conv]; exact h
  | @ref a n hn =>
    simp only [in2] at h
    split at h
    · rename_i ds hd
      obtain ⟨vs, e1, s1⟩ := hr.lst hn hd
      cases ry
      refine seqs s1 (.inl (SqL.of e1)) rfl ?_
      rw [← conv]; exact h
    · split at h
      · rename_i kvs k hd hk
        obtain ⟨kws, e1, s1⟩ := dcR_at hr hn hd
        have hv : (valV kws k).isSome = (valD kvs k).isSome := by
          rcases rks_val s1 k with ⟨_, _, z1, z2, _⟩ | ⟨z1, z2⟩ <;> (rw [z1, z2]; try rfl)
        exact op_notinK (by omega) pins st σ H _ _ v u Q I rx ry ⟨a, kws, k, rfl, e1, keyOf_rel r1 hk, by rw [hv]; exact h m H _ .refl hr (.bl _)⟩
      · exact h.elim
  | _ => exact h.elim
theorem sameF_rd {K : PySem.W.Frag} {m : List Addr} {H : Hp} {v w : V} {d e : D} (h : sameF d e = true) (r1 : RD K m H v d) (r2 : RD K m H w e) : v = w ∧ flatB v = true := by
  cases r1 with
  | non => cases r2 <;> first | exact ⟨rfl, rfl⟩ | (simp [sameF] at h)
  | bl b => cases r2 <;> first | (simp only [sameF, beq_iff_eq] at h; subst h; exact ⟨rfl, rfl⟩) | (simp [sameF] at h)
  | int b => cases r2 <;> first | (simp only [sameF, beq_iff_eq] at h; subst h; exact ⟨rfl, rfl⟩) | (simp [sameF] at h)
  | str b => cases r2 <;> first | (simp only [sameF, beq_iff_eq] at h; subst h; exact ⟨rfl, rfl⟩) | (simp [sameF] at h)
  | tup _ _ => cases r2 <;> simp [sameF] at h
  | rol _ _ => cases r2 <;> simp [sameF] at h
  | ref _ => cases r2 <;> simp [sameF] at h
theorem o_nek (hu : X.A.units + 100 < cLine) : OpR X (compareOp .NotEq) (L2R X.K ad nekD) := by
  intro pins st σ H x y v u Q I rx ry ⟨m, s, d, e, hr, r1, r2, h⟩
  cases r1 with
  | @ref a n hn =>
    cases r2 with
    | @ref b k hk =>
      unfold nekD at h
      dsimp only at h
      cases ha : dcAt s n with
      | none => rw [ha] at h; exact h.elim
      | some ka =>
        cases hb : dcAt s k with
        | none => rw [ha, hb] at h; exact h.elim
        | some kb =>
          rw [ha, hb] at h
          dsimp only at h
          by_cases hs : sameKv ka kb = true
          · rw [if_pos hs] at h
            obtain ⟨ks, e1, q1⟩ := hr.at_ n a _ hn (dcAt_some ha)
            obtain ⟨ls, e2, q2⟩ := hr.at_ k b _ hk (dcAt_some hb)
            unfold sameKv at hs
            rw [Bool.and_eq_true, beq_iff_eq] at hs
            have l1 := rks_len q1
            have l2 := rks_len q2
            refine op_ne_dictA (by omega) pins st σ H _ _ v u Q I rx ry ⟨a, b, ks, ls, rfl, rfl, e1, e2, by omega, fun p hp => ?_, h m H _ .refl hr (.bl _)⟩
            obtain ⟨q, hq, eq, rq⟩ : ∃ q ∈ ka, p.1 = q.1 ∧ RD X.K m H p.2 q.2 := by
              have : ∀ {ks : List (Key × V)} {ka : List (Key × D)}, RKs X.K m H ks ka → ∀ p ∈ ks, ∃ q ∈ ka, p.1 = q.1 ∧ RD X.K m H p.2 q.2 := by
                intro ks ka r
                induction r with
                | nil => intro p hp; cases hp
                | cons h _ ih =>
                  intro p hp
                  rcases List.mem_cons.mp hp with rfl | hp
                  · exact ⟨_, List.mem_cons_self, h⟩
                  · obtain ⟨q, hq, z⟩ := ih p hp
                    exact ⟨q, List.mem_cons_of_mem _ hq, z⟩
              exact this q1 p hp
            have hh := List.all_eq_true.mp hs.2 q hq
            rcases rks_val q2 p.1 with ⟨w, c, z1, z2, z3⟩ | ⟨z1, z2⟩
            · rw [eq] at z2
              rw [z2] at hh
              obtain ⟨g1, g2⟩ := sameF_rd hh rq z3
              exact ⟨by rw [z1, g1], g2⟩
            · rw [eq] at z2
              rw [z2] at hh
              cases hh
          · rw [if_neg hs] at h; exact h.elim
    | _ => exact h.elim
  | _ => exact h.elim
theorem o_cop (hu : X.A.units + 100 < cLine) (c : COp) : OpR X (compareOp c.op) (L2R X.K ad (cop c)) := by
  cases c
  · exact o_cmpI (g := fun x y => decide (x < y)) op_lt op_lt_str
  · exact o_cmpI (g := fun x y => !decide (y < x)) op_le op_le_str
  · exact o_cmpI (g := fun x y => decide (y < x)) op_gt op_gt_str
  · exact o_cmpI (g := fun x y => !decide (x < y)) op_ge op_ge_str
  · exact o_eq hu
  · exact o_ne hu
  · exact o_is
  · exact o_isnot
  · exact o_in hu
  · exact o_notin hu
  · exact o_nek hu
end
end T
set_option Elab.async false
set_option linter.all false
set_option maxRecDepth 100000
set_option maxHeartbeats 4000000
/-! TLt: sorted, of ints, texts, tuples of them. -/
namespace T
open PySem PySem.Spec L2
open PyProof.Rows hiding St
abbrev IK := Int ⊕ List Nat
def keyI : D → IK
  | .int i => .inl i
  | .str x => .inr x.cps.toList
  | _ => .inl 0
def keyD : D → List IK
  | .tup ds => ds.map keyI
  | d => [keyI d]
def leD (a b : D) : Bool := !lexLt itemOrd (keyD b) (keyD a)
def shOf (ds : List D) (i : Nat) : Bool := match ds[i]? with
  | some (.str _) => true
  | _ => false
def flatOk (sh : Nat → Bool) : Nat → List D → Bool
  | _, [] => true
  | i, .int _ :: r => !sh i && flatOk sh (i + 1) r
  | i, .str _ :: r => sh i && flatOk sh (i + 1) r
  | _, _ :: _ => false
def tupsOk (sh : Nat → Bool) : List D → Bool
  | [] => true
  | .tup ds :: r => !ds.isEmpty && flatOk sh 0 ds && tupsOk sh r
  | _ :: _ => false
def shF (ds : List D) : Nat → Bool := match ds with
  | .tup es :: _ => shOf es
  | _ => fun _ => false
def allInt : List D → Bool
  | [] => true
  | .int _ :: r => allInt r
  | _ => false
def allStr : List D → Bool
  | [] => true
  | .str _ :: r => allStr r
  | _ => false
def sortOk (ds : List D) : Bool := allInt ds || allStr ds || tupsOk (shF ds) ds
def sortD (ds : List D) : List D := ds.mergeSort leD
theorem leD_iff {a b : D} : leD a b = true ↔ (listOrd itemOrd).kle (keyD a) (keyD b) := by
  unfold leD KeyOrd.kle; simp
theorem leD_trans (a b c : D) (h1 : leD a b = true) (h2 : leD b c = true) : leD a c = true := leD_iff.mpr (KeyOrd.kle_trans (leD_iff.mp h1) (leD_iff.mp h2))
theorem leD_total (a b : D) : (leD a b || leD b a) = true := by
  rw [Bool.or_eq_true]
  by_cases h : (listOrd itemOrd).klt (keyD b) (keyD a)
  · exact .inr (leD_iff.mpr (KeyOrd.kle_of_klt h))
  · exact .inl (leD_iff.mpr (KeyOrd.kle_of_not_klt h))
theorem leD_anti {a b : D} (h1 : leD a b = true) (h2 : leD b a = true) : keyD a = keyD b := (listOrd itemOrd).total _ _ (leD_iff.mp h2) (leD_iff.mp h1)
theorem sortD_sorted (ds : List D) : (sortD ds).Pairwise fun a b => leD a b = true := List.pairwise_mergeSort leD_trans leD_total ds
theorem sortD_perm (ds : List D) : (sortD ds).Perm ds := List.mergeSort_perm ds leD
/-! flat things are their keys -/
def flat1 : D → Bool
  | .int _ => true
  | .str _ => true
  | _ => false
theorem keyI_inj {a b : D} (ha : flat1 a = true) (hb : flat1 b = true) (h : keyI a = keyI b) : a = b := by
  cases a <;> simp [flat1] at ha <;> cases b <;> simp [flat1] at hb <;> simp [keyI] at h
  · rw [h]
  · rename_i x y
    congr 1
    cases x; cases y; simp only [Str.mk.injEq]; exact Array.toList_inj.mp (by simpa using h)
theorem keyI_map : ∀ {xs ys : List D}, (∀ d ∈ xs, flat1 d = true) → (∀ d ∈ ys, flat1 d = true) → xs.map keyI = ys.map keyI → xs = ys
  | [], [], _, _, _ => rfl
  | [], _ :: _, _, _, h => by simp at h
  | _ :: _, [], _, _, h => by simp at h
  | a :: xs, b :: ys, h1, h2, h => by
    simp only [List.map_cons, List.cons.injEq] at h
    rw [keyI_inj (h1 a (by simp)) (h2 b (by simp)) h.1, keyI_map (fun d hd => h1 d (by simp [hd])) (fun d hd => h2 d (by simp [hd])) h.2]
theorem flatOk_all {sh : Nat → Bool} : ∀ {i : Nat} {ds : List D}, flatOk sh i ds = true → ∀ d ∈ ds, flat1 d = true
  | _, [], _, d, hd => by cases hd
  | i, a :: r, h, d, hd => by
    cases a <;> simp only [flatOk, Bool.and_eq_true, Bool.false_eq_true] at h
    all_goals
      rcases List.mem_cons.mp hd with rfl | hd
      · rfl
      · exact flatOk_all h.2 d hd
theorem allInt_mem : ∀ {ds : List D}, allInt ds = true → ∀ d ∈ ds, ∃ i, d = .int i
  | [], _, d, hd => by cases hd
  | a :: r, h, d, hd => by
    cases a <;> simp only [allInt, Bool.false_eq_true] at h
    rcases List.mem_cons.mp hd with rfl | hd
    · exact ⟨_, rfl⟩
    · exact allInt_mem h d hd
theorem allStr_mem : ∀ {ds : List D}, allStr ds = true → ∀ d ∈ ds, ∃ i, d = .str i
  | [], _, d, hd => by cases hd
  | a :: r, h, d, hd => by
    cases a <;> simp only [allStr, Bool.false_eq_true] at h
    rcases List.mem_cons.mp hd with rfl | hd
    · exact ⟨_, rfl⟩
    · exact allStr_mem h d hd
theorem tupsOk_mem {sh : Nat → Bool} : ∀ {ds : List D}, tupsOk sh ds = true → ∀ d ∈ ds, ∃ es, d = .tup es ∧ es ≠ [] ∧ flatOk sh 0 es = true
  | [], _, d, hd => by cases hd
  | a :: r, h, d, hd => by
    cases a <;> simp only [tupsOk, Bool.and_eq_true, Bool.false_eq_true] at h
    rcases List.mem_cons.mp hd with rfl | hd
    · exact ⟨_, rfl, by simpa using h.1.1, h.1.2⟩
    · exact tupsOk_mem h.2 d hd
theorem sort_anti {ds : List D} (h : sortOk ds = true) {a b : D} (ha : a ∈ ds) (hb : b ∈ ds) (e : keyD a = keyD b) : a = b := by
  unfold sortOk at h
  rw [Bool.or_eq_true, Bool.or_eq_true] at h
  rcases h with (h | h) | h
  · obtain ⟨i, rfl⟩ := allInt_mem h a ha
    obtain ⟨j, rfl⟩ := allInt_mem h b hb
    simp [keyD, keyI] at e; rw [e]
  · obtain ⟨i, rfl⟩ := allStr_mem h a ha
    obtain ⟨j, rfl⟩ := allStr_mem h b hb
    exact keyI_inj rfl rfl (by simpa [keyD] using e)
  · obtain ⟨es, rfl, _, h1⟩ := tupsOk_mem h a ha
    obtain ⟨fs, rfl, _, h2⟩ := tupsOk_mem h b hb
    rw [keyI_map (flatOk_all h1) (flatOk_all h2) e]
/-- the one sorted row -/
theorem sortD_one {ds es : List D} (h : sortOk ds = true) (p : es.Perm ds) (s : es.Pairwise fun a b => leD a b = true) : es = sortD ds :=
  List.Perm.eq_of_pairwise (fun a b ha hb h1 h2 => sort_anti h (p.mem_iff.mp ha) ((sortD_perm ds).mem_iff.mp hb) (leD_anti h1 h2)) s (sortD_sorted ds) (p.trans (sortD_perm ds).symm)
/-! rows of pairs -/
inductive P2 {α β : Type} (R : α → β → Prop) : List α → List β → Prop
  | nil : P2 R [] []
  | cons {a : α} {b : β} {l : List α} {m : List β} : R a b → P2 R l m → P2 R (a :: l) (b :: m)
section
variable {α β : Type} {R : α → β → Prop}
theorem P2.perm {l' l : List α} (p : l'.Perm l) : ∀ {m : List β}, P2 R l m → ∃ m', P2 R l' m' ∧ m'.Perm m := by
  induction p with
  | nil => intro m h; exact ⟨m, h, .refl _⟩
  | cons x _ ih =>
    intro m h
    cases h with
    | cons a r =>
      obtain ⟨m', h1, h2⟩ := ih r
      exact ⟨_, .cons a h1, h2.cons _⟩
  | swap x y l =>
    intro m h
    cases h with
    | cons a r => cases r with
      | cons b r => exact ⟨_, .cons b (.cons a r), .swap _ _ _⟩
  | trans _ _ ih1 ih2 =>
    intro m h
    obtain ⟨m1, h1, h2⟩ := ih2 h
    obtain ⟨m2, h3, h4⟩ := ih1 h1
    exact ⟨m2, h3, h4.trans h2⟩
theorem P2.left {l : List α} {m : List β} (h : P2 R l m) : ∀ b ∈ m, ∃ a ∈ l, R a b := by
  induction h with
  | nil => intro b hb; cases hb
  | cons a r ih =>
    intro b hb
    rcases List.mem_cons.mp hb with rfl | hb
    · exact ⟨_, by simp, a⟩
    · obtain ⟨a, h1, h2⟩ := ih b hb; exact ⟨a, by simp [h1], h2⟩
theorem P2.right {l : List α} {m : List β} (h : P2 R l m) : ∀ a ∈ l, ∃ b ∈ m, R a b := by
  induction h with
  | nil => intro b hb; cases hb
  | cons a r ih =>
    intro b hb
    rcases List.mem_cons.mp hb with rfl | hb
    · exact ⟨_, by simp, a⟩
    · obtain ⟨a, h1, h2⟩ := ih b hb; exact ⟨a, by simp [h1], h2⟩
theorem P2.pw {S : α → α → Prop} {U : β → β → Prop} (hs : ∀ a b c d, R a b → R c d → S a c → U b d) {l : List α} {m : List β} (h : P2 R l m) (p : l.Pairwise S) : m.Pairwise U := by
  induction h with
  | nil => exact .nil
  | cons a r ih =>
    rw [List.pairwise_cons] at p ⊢
    refine ⟨fun b hb => ?_, ih p.2⟩
    obtain ⟨c, h1, h2⟩ := r.left b hb
    exact hs _ _ _ _ a h2 (p.1 c h1)
theorem P2.mono {R' : α → β → Prop} {l : List α} {m : List β} (h : P2 R l m) (k : ∀ a b, a ∈ l → b ∈ m → R a b → R' a b) : P2 R' l m := by
  induction h with
  | nil => exact .nil
  | cons a r ih => exact .cons (k _ _ (by simp) (by simp) a) (ih fun a b ha hb => k a b (by simp [ha]) (by simp [hb]))
end
/-- what the sort leaves, as data -/
theorem sort_out {κ : KeyKind} {R : Value → D → Prop} {ds : List D} {vs : List Value} {arr : Array Keyed} (hk : ∀ v d, v ∈ vs → R v d → d ∈ ds → ∃ a, κ.keyOf v = some a)
    (hle : ∀ v d u e a b, R v d → R u e → d ∈ ds → e ∈ ds → κ.keyOf v = some a → κ.keyOf u = some b → κ.kle a b → leD d e = true) (h : P2 R vs ds) (hp : arr.Perm (pairsOf vs)) (hs : SortedToK κ arr (pairsOf vs).size) (ho : sortOk ds = true) :
    P2 R (arr.map (·.2)).toList (sortD ds) ∧ ((arr.map (·.2)).toList).Perm vs := by
  have hl : arr.toList.Perm (vs.zip vs) := by rw [← pairsOf_toList]; exact Array.perm_iff_toList_perm.mp hp
  have hmem : ∀ p, p ∈ arr.toList → p.1 = p.2 ∧ p.1 ∈ vs := fun p hp' => mem_zip_self (hl.mem_iff.mp hp')
  have e : (arr.map (·.2)).toList = arr.toList.map (·.1) := by
    rw [Array.toList_map]; exact List.map_congr_left fun p hp' => (hmem p hp').1.symm
  have ez : ∀ vs : List Value, (vs.zip vs).map (·.1) = vs := fun vs => by
    induction vs with
    | nil => rfl
    | cons v vs ih => rw [List.zip_cons_cons, List.map_cons, ih]
  have hperm : (arr.toList.map (·.1)).Perm vs := by
    have := hl.map (·.1)
    rwa [ez] at this
  rw [e]
  refine ⟨?_, hperm⟩
  have hR : P2 (fun v d => R v d ∧ d ∈ ds) vs ds := h.mono fun a b _ hb r => ⟨r, hb⟩
  obtain ⟨m, h1, h2⟩ := hR.perm hperm
  have hkeys : KeysOf κ arr := fun p hp' => by
    obtain ⟨d, hd, hr⟩ := h.right p.1 (hmem p hp').2
    exact hk _ d (hmem p hp').2 hr hd
  have hpw := keyLe_of_sorted hkeys (by rw [hp.size_eq]; exact hs)
  have hpw2 : (arr.toList.map (·.1)).Pairwise fun v u => ∃ a b, κ.keyOf v = some a ∧ κ.keyOf u = some b ∧ κ.kle a b := List.pairwise_map.mpr (hpw.imp fun {p q} h => h)
  have := h1.pw (U := fun d e => leD d e = true) (fun v d u e r1 r2 ⟨a, b, k1, k2, k3⟩ => hle v d u e a b r1.1 r2.1 r1.2 r2.2 k1 k2 k3) hpw2
  have := sortD_one ho h2 this
  subst this
  exact h1.mono fun _ _ _ _ r => r.1
section
variable {K : PySem.W.Frag} {m : List Addr} {H : Hp}
/-- value and data -/
def RVD (K : PySem.W.Frag) (m : List Addr) (H : Hp) (u : Value) (d : D) : Prop := ∃ v, RelV v u ∧ RD K m H v d
theorem p2_of : ∀ {vs : List V} {us : List Value} {ds : List D}, Vals vs us → RDs K m H vs ds → P2 (RVD K m H) us ds
  | _, _, _, .nil, .nil => .nil
  | _, _, _, .cons a r, .cons b t => .cons ⟨_, a, b⟩ (p2_of r t)
theorem of_p2 {us : List Value} {ds : List D} (h : P2 (RVD K m H) us ds) : ∃ vs, Vals vs us ∧ RDs K m H vs ds := by
  induction h with
  | nil => exact ⟨[], .nil, .nil⟩
  | cons a r ih =>
    obtain ⟨v, h1, h2⟩ := a
    obtain ⟨vs, h3, h4⟩ := ih
    exact ⟨v :: vs, .cons h1 h3, .cons h2 h4⟩
theorem rvd_int {u : Value} {i : Int} (h : RVD K m H u (.int i)) : ∃ t, u = .int i t := by
  obtain ⟨v, h1, h2⟩ := h
  cases h2
  exact h1
theorem rvd_str {u : Value} {x : Str} (h : RVD K m H u (.str x)) : ∃ t, u = .str x t := by
  obtain ⟨v, h1, h2⟩ := h
  cases h2
  exact h1
theorem p2_ints : ∀ {us : List Value} {ds : List D}, P2 (RVD K m H) us ds → allInt ds = true → ∃ ns, IntsAre us ns
  | _, _, .nil, _ => ⟨[], intsAre_of .nil⟩
  | _, _, .cons (b := d) a r, h => by
    cases d <;> simp only [allInt, Bool.false_eq_true] at h
    obtain ⟨t, rfl⟩ := rvd_int a
    obtain ⟨ns, h1⟩ := p2_ints r h
    exact ⟨_ :: ns, .cons _ _ h1⟩
theorem p2_strs : ∀ {us : List Value} {ds : List D}, P2 (RVD K m H) us ds → allStr ds = true → ∃ ns, StrsAre us ns
  | _, _, .nil, _ => ⟨[], strsAre_of .nil⟩
  | _, _, .cons (b := d) a r, h => by
    cases d <;> simp only [allStr, Bool.false_eq_true] at h
    obtain ⟨t, rfl⟩ := rvd_str a
    obtain ⟨ns, h1⟩ := p2_strs r h
    exact ⟨_ :: ns, .cons _ _ h1⟩
theorem items_of {sh : Nat → Bool} : ∀ {i : Nat} {us : List Value} {es : List D}, P2 (RVD K m H) us es → flatOk sh i es = true → tupItems sh i us = some (es.map keyI)
  | _, _, _, .nil, _ => rfl
  | i, _, _, .cons (b := d) a r, h => by
    cases d <;> simp only [flatOk, Bool.and_eq_true, Bool.not_eq_true', Bool.false_eq_true] at h
    · obtain ⟨t, rfl⟩ := rvd_int a
      unfold tupItems
      rw [if_neg (by simp [h.1]), items_of r h.2]; rfl
    · obtain ⟨t, rfl⟩ := rvd_str a
      unfold tupItems
      rw [if_pos h.1, items_of r h.2]; rfl
end
section
variable {X : Cx} {ad : Ad}
theorem tup_of {pins : List (Addr × Obj)} {σ : L2.St} {H : Hp} {s : Shared} {m : List Addr} (I : L2.Inv X pins σ H s) {u : Value} {es : List D} {sh : Nat → Bool} (h : RVD X.K m H u (.tup es)) (hne : es ≠ []) (hf : flatOk sh 0 es = true) :
    PyProof.Rows.G.tupKeyC s.heap sh u = some (keyD (.tup es)) ∧ ∃ f, TupOf s.heap sh u f := by
  obtain ⟨v, h1, h2⟩ := h
  cases h2 with
  | tup hq hs =>
    obtain rfl : u = Value.ref _ := h1
    obtain ⟨its, rv, ⟨o, ho, hc, n, hd⟩, hz⟩ := I.tuple hq
    have p2 := p2_of rv hs
    have hi := items_of p2 hf
    refine ⟨?_, ?_⟩
    · unfold PyProof.Rows.G.tupKeyC PyProof.Rows.G.isTupObj tupKey
      simp only [ho, hc, hd, hi, beq_self_eq_true, if_true]
      rfl
    · cases p2 with
      | nil => exact absurd rfl hne
      | @cons a d l es a1 r =>
        refine ⟨a, _, o, _, n, rfl, ho, hc, hd, rfl, fun h0 => ?_, fun h0 => ?_⟩
        · cases d <;> simp only [flatOk, Bool.and_eq_true, Bool.not_eq_true', Bool.false_eq_true] at hf
          · exact ⟨_, rvd_int a1⟩
          · rw [h0] at hf; exact absurd hf.1 (by decide)
        · cases d <;> simp only [flatOk, Bool.and_eq_true, Bool.not_eq_true', Bool.false_eq_true] at hf
          · rw [h0] at hf; exact absurd hf.1 (by decide)
          · exact ⟨_, rvd_str a1⟩
theorem sort_call {pins : List (Addr × Obj)} {σ : L2.St} {H : Hp} {s : Shared} {m : List Addr} (I : L2.Inv X pins σ H s) {p : Addr} {vs : List V} {ds : List D} (hq : SqL X.K H p vs) (rs : RDs X.K m H vs ds) (ho : sortOk ds = true) {Q : VK}
    (q : ∀ vs' a, RDs X.K m H vs' (sortD ds) → H a = none → Q (.ref a) (upd H a (.lst vs'))) : wpAny (model X.prog X.w) X.A (call (.builtin "sorted") [.ref p]) (EP X pins σ Q) X.xe s := by
  obtain ⟨its, rv, hl, hz⟩ := I.list hq
  have p2 := p2_of rv rs
  have hz2 : its.length ≤ sizeLine := by rw [← rv.length]; exact hz
  have fin : ∀ arr : Array Keyed, P2 (RVD X.K m H) (arr.map (·.2)).toList (sortD ds) ∧ ((arr.map (·.2)).toList).Perm its → EP X pins σ Q (.ref (s.heap.objs.size + 1)) { s with heap := sortedAll s.heap its (arr.map (·.2)) } := by
    rintro arr ⟨h1, h2⟩
    obtain ⟨vs', r1, r2⟩ := of_p2 h1
    obtain ⟨ep, he'⟩ := PyProof.Rows.sortedAll_at s.heap its (arr.map (·.2))
    have hlen : vs'.length ≤ sizeLine := by rw [r1.length, h2.length_eq]; exact hz2
    exact ⟨.ref _, upd H (s.heap.objs.size + 1) (.lst vs'), I.laid (t' := s.toks) (fun _ _ => PyProof.Rows.sortedAll_old) (Nat.le_succ _) ⟨hlen, (arr.map (·.2)).toList, ep, r1, by rw [Array.toArray_toList]; exact he'⟩, rfl, q _ _ r2 (I.hok.fresh (Nat.le_succ _))⟩
  have ho2 := ho
  unfold sortOk at ho
  rw [Bool.or_eq_true, Bool.or_eq_true] at ho
  rcases ho with (h | h) | h
  · obtain ⟨ns, hi⟩ := p2_ints p2 h
    refine sortedKAny intKind_oneLt hl.isList hi.keysOfInt (fun v₁ v₂ rest e => keyKind_ints (by rw [← e]; exact hi)) hz2 fun st' hp hs => fin _ (sort_out (κ := intKind) (fun v d _ r hd => ?_) (fun v d u e a b r1 r2 hd he k1 k2 k3 => ?_) p2 hp hs ho2)
    · obtain ⟨i, rfl⟩ := allInt_mem h d hd
      obtain ⟨t, rfl⟩ := rvd_int r
      exact ⟨i, rfl⟩
    · obtain ⟨i, rfl⟩ := allInt_mem h d hd
      obtain ⟨j, rfl⟩ := allInt_mem h e he
      obtain ⟨t, rfl⟩ := rvd_int r1
      obtain ⟨t2, rfl⟩ := rvd_int r2
      have k1 : some i = some a := k1
      have k2 : some j = some b := k2
      injection k1 with k1; injection k2 with k2
      subst k1; subst k2
      have k3 : decide (j < i) = false := k3
      show (!(decide (j < i) || (!decide (i < j) && false))) = true
      rw [k3]; simp
  · obtain ⟨ns, hi⟩ := p2_strs p2 h
    refine sortedKAny strKind_oneLt hl.isList hi.keysOf (fun v₁ v₂ rest e => keyKind_strs (by rw [← e]; exact hi)) hz2 fun st' hp hs => fin _ (sort_out (κ := strKind) (fun v d _ r hd => ?_) (fun v d u e a b r1 r2 hd he k1 k2 k3 => ?_) p2 hp hs ho2)
    · obtain ⟨i, rfl⟩ := allStr_mem h d hd
      obtain ⟨t, rfl⟩ := rvd_str r
      exact ⟨_, rfl⟩
    · obtain ⟨i, rfl⟩ := allStr_mem h d hd
      obtain ⟨j, rfl⟩ := allStr_mem h e he
      obtain ⟨t, rfl⟩ := rvd_str r1
      obtain ⟨t2, rfl⟩ := rvd_str r2
      have k1 : some i.cps.toList = some a := k1
      have k2 : some j.cps.toList = some b := k2
      injection k1 with k1; injection k2 with k2
      subst k1; subst k2
      have k3 : decide (j.cps.toList < i.cps.toList) = false := k3
      show (!(decide (j.cps.toList < i.cps.toList) || (!decide (i.cps.toList < j.cps.toList) && false))) = true
      rw [k3]; simp
  · have hm := fun d hd => tupsOk_mem h d hd
    generalize shF ds = sh at h hm
    have hk : ∀ u ∈ its, ∃ d ∈ ds, ∃ es, d = .tup es ∧ PyProof.Rows.G.tupKeyC s.heap sh u = some (keyD d) ∧ ∃ f, TupOf s.heap sh u f := fun u hu => by
      obtain ⟨d, hd, r⟩ := p2.right u hu
      obtain ⟨es, rfl, h1, h2⟩ := hm d hd
      exact ⟨_, hd, es, rfl, tup_of I r h1 h2⟩
    have tf : ∀ l : List Value, (∀ u ∈ l, ∃ f, TupOf s.heap sh u f) → ∃ fs, TupsOf s.heap sh l fs := by
      intro l
      induction l with
      | nil => exact fun _ => ⟨[], .nil⟩
      | cons u l ih =>
        intro hl
        obtain ⟨f, hf⟩ := hl u (by simp)
        obtain ⟨fs, hfs⟩ := ih fun u hu => hl u (by simp [hu])
        exact ⟨f :: fs, .cons hf hfs⟩
    obtain ⟨fs, hfs⟩ := tf its fun u hu => by obtain ⟨_, _, _, _, _, z⟩ := hk u hu; exact z
    refine PyProof.Rows.G.sorted_tups hl.isList hfs (fun u hu => by obtain ⟨_, _, _, _, z, _⟩ := hk u hu; exact ⟨_, z⟩) hz2 fun st' hp hs _ => fin _ (sort_out (κ := PyProof.Rows.G.tupKindC s.heap sh) (fun v d hv r hd => ?_) (fun v d u e a b r1 r2 hd he k1 k2 k3 => ?_) p2 hp hs ho2)
    · obtain ⟨_, _, _, _, z, _⟩ := hk v hv
      exact ⟨_, z⟩
    · obtain ⟨es, rfl, h1, h2⟩ := hm d hd
      obtain ⟨es2, rfl, h3, h4⟩ := hm e he
      have e1 := (tup_of I r1 h1 h2).1
      have e2 := (tup_of I r2 h3 h4).1
      have k1 : PyProof.Rows.G.tupKeyC s.heap sh v = some a := k1
      have k2 : PyProof.Rows.G.tupKeyC s.heap sh u = some b := k2
      rw [e1] at k1; rw [e2] at k2
      cases k1; cases k2
      exact leD_iff.mpr k3
end
end T
set_option Elab.async false
set_option linter.all false
set_option maxRecDepth 100000
set_option maxHeartbeats 2000000
/-! TLh: sorted of a dict. -/
namespace T
open PySem PySem.Spec L2
open PyProof.Rows hiding St
section
variable {X : Cx}
theorem ok_ex {P : Program} {w : World} {H : Hp} {h : Heap} {a : Addr} {o : HO} (x : ObjOk P w H h a o) : ∃ ob, h.get? a = some ob := by
  induction o with
  | lst xs => obtain ⟨_, its, n, _, e⟩ := x; obtain ⟨⟩ | ⟨⟩ := Classical.em True <;> exact ⟨_, e⟩
  | tup xs => obtain ⟨_, _, _, ob, e, _⟩ := x; exact ⟨ob, e⟩
  | dK kvs => obtain ⟨_, _, _, _, ob, _, _, e, _⟩ := x; exact ⟨ob, e⟩
  | dT kvs => obtain ⟨_, _, _, _, ob, _, _, e, _⟩ := x; exact ⟨ob, e⟩
  | set S n => obtain ⟨ob, _, _, _, e, _⟩ := x; exact ⟨ob, e⟩
  | ins C dx fs => obtain ⟨_, _, _, e, _⟩ := x; exact ⟨_, e⟩
  | own y => obtain ⟨ob, e⟩ := x; exact ⟨ob, e⟩
  | xd fs => obtain ⟨_, ⟨od, _, _, e, _⟩, _⟩ := x; exact ⟨od, e⟩
  | rng lo hi => obtain ⟨_, _, _, e⟩ := x; exact ⟨_, e⟩
  | frz ob u ih => exact ⟨ob, x.1⟩
  | tbl ps => exact ⟨_, x⟩
  | met f y => exact ⟨_, x⟩
  | ext φ => obtain ⟨_, ⟨o, e⟩, _⟩ := x; exact ⟨o, e⟩
/-- an object laid at a place that no known object has -/
theorem laid_at {pins : List (Addr × Obj)} {σ : L2.St} {H : Hp} {s : Shared} {h' : Heap} {a : Addr} {o : HO} {t' : Nat} (I : L2.Inv X pins σ H s) (k : ∀ b u, s.heap.get? b = some u → h'.get? b = some u) (ha : s.heap.get? a = none) (new : ObjOk X.prog X.w (upd H a o) h' a o) :
    H a = none ∧ L2.Inv X pins σ (upd H a o) { s with heap := h', toks := t' } := by
  have hn : H a = none := by
    cases hq : H a with
    | none => rfl
    | some u =>
      obtain ⟨ob, e⟩ := ok_ex (I.hok a u hq)
      rw [ha] at e; cases e
  have ne : ∀ b u, s.heap.get? b = some u → b ≠ a := fun b u e z => by subst z; rw [ha] at e; cases e
  refine ⟨hn, I.un { keep := fun b u e _ _ _ => k b u e, slot := fun b u e _ _ _ => ⟨u.slots, k b u e⟩, free := fun b u e m _ => (upd_ne (ne b u e)).trans m, there := fun b u e _ => ⟨u, k b u e⟩, tups := fun b xs e => (upd_ne (ne_of_none e hn)).trans e, frzs := fun b ob xs e => (upd_ne (ne_of_none e hn)).trans e, tbls := fun b ps e => ⟨#[], by rw [Array.append_empty]; exact (upd_ne (ne_of_none e hn)).trans e⟩ } fun b u e => ?_⟩
  by_cases hb : b = a
  · subst hb
    rw [upd_same] at e
    cases e
    exact new
  · rw [upd_ne hb] at e
    exact (I.hok b u e).stay (fun c v _ q => k c v q) (fun c q => (upd_ne (ne_of_none q hn)).trans q) fun c xs q => (upd_ne (ne_of_none q hn)).trans q
theorem sort_callD {pins : List (Addr × Obj)} {σ : L2.St} {H : Hp} {s : Shared} {m : List Addr} (hc : X.calm = true) (I : L2.Inv X pins σ H s) {p : Addr} {kws : List (Key × V)} {ds : List D} (hk : H p = some (.dK kws)) (rs : RDs X.K m H (kws.map fun kv => kV kv.1) ds) (ho : (allInt ds || allStr ds) = true) {Q : VK}
    (q : ∀ vs' a, RDs X.K m H vs' (sortD ds) → H a = none → Q (.ref a) (upd H a (.lst vs'))) : wpAny (model X.prog X.w) X.A (call (.builtin "sorted") [.ref p]) (EP X pins σ Q) X.xe s := by
  obtain ⟨z, lo, vs, rk, hd⟩ := (show ObjOk X.prog X.w H s.heap p (.dK kws) from I.hok p _ hk)
  obtain ⟨ep, hat⟩ := hd.dictAt
  have hl : kws.length = vs.length := Paired.length rk
  refine Calls.call_function_entry kind_sorted plain_sorted entry_sorted (args_sorted1 _) ?_
  unfold Builtin.«sorted»
  refine wpAny_bind (m := checkCount "sorted" 1 1 _) (wpAny_pure ?_)
  refine wpAny_bind (PySem.W.kdu_collect (PySem.W.kdl_dict (knd := mixKind X.prog X.w) (kvs := vs) (ep := ep) lo) (I.ok.hd hc) hat (by rw [← hl]; exact z) fun h' tk acc hkeep hacc => ?_)
  have hsz : acc.toList.length ≤ sizeLine := by
    have el : acc.toList.length = acc.size := by simp
    rw [el, hacc.1, ← hl]; exact z
  have rv : Vals (kws.map fun kv => kV kv.1) acc.toList := by
    have el : acc.toList.length = acc.size := by simp
    refine vals_of_at (by rw [List.length_map, el, hacc.1, hl]) fun j x w h1 h2 => ?_
    obtain ⟨k, y, hky, hi⟩ := hacc.2 j w (by rw [← Array.getElem?_toList]; exact h2)
    have e1 : (kws.map (·.1))[j]? = some k := by
      rw [KV.keys rk, List.getElem?_map, hky] <;> rfl
    have e2 : (kws.map fun kv => kV kv.1)[j]? = some (kV k) := by
      have e3 : (kws.map fun kv => kV kv.1) = (kws.map (·.1)).map kV := by rw [List.map_map] <;> rfl
      rw [e3, List.getElem?_map, e1] <;> rfl
    rw [e2] at h1
    cases h1
    exact keyIs_rel hi
  generalize acc.toList = its at hsz rv
  have p2 := p2_of rv rs
  refine wpAny_bind (wpAny_newList ?_ hsz)
  have hoL : (h'.push (seqObj "list" its.toArray 0)).get? h'.objs.size = some (seqObj "list" its.toArray 0) := Heap.get?_push_size _ rfl
  have fin : ∀ arr : Array Keyed, P2 (RVD X.K m H) (arr.map (·.2)).toList (sortD ds) ∧ ((arr.map (·.2)).toList).Perm its → EP X pins σ Q (.ref h'.objs.size) { s with heap := sortedHeap (h'.push (seqObj "list" its.toArray 0)) h'.objs.size its (arr.map (·.2)), toks := tk } := by
    rintro arr ⟨h1, h2⟩
    obtain ⟨vs', r1, r2⟩ := of_p2 h1
    obtain ⟨ep2, he'⟩ := PyProof.Rows.sortedHeap_at (vs := its) (out := arr.map (·.2)) hoL
    have hlen : vs'.length ≤ sizeLine := by rw [r1.length, h2.length_eq]; exact hsz
    have hno : s.heap.get? h'.objs.size = none := by
      cases hq : s.heap.get? h'.objs.size with
      | none => rfl
      | some u => exact absurd (Heap.lt_size (hkeep _ _ hq)) (Nat.lt_irrefl _)
    obtain ⟨hn, I2⟩ := laid_at (h' := sortedHeap (h'.push (seqObj "list" its.toArray 0)) h'.objs.size its (arr.map (·.2))) (t' := tk) (o := .lst vs') I (fun b o e => by
      have e2 := hkeep b o e
      have hb : b < h'.objs.size := Heap.lt_size e2
      have e3 : (h'.push (seqObj "list" its.toArray 0)).get? b = some o := Heap.get?_push_of_some _ e2
      rw [PyProof.Rows.sortedHeap_old (Nat.ne_of_lt hb) (Heap.lt_size e3)]
      exact e3) hno ⟨hlen, (arr.map (·.2)).toList, ep2, r1, by rw [Array.toArray_toList]; exact he'⟩
    exact ⟨.ref _, _, I2, rfl, q _ _ r2 hn⟩
  rw [Bool.or_eq_true] at ho
  have hso : sortOk ds = true := by unfold sortOk; rw [Bool.or_eq_true, Bool.or_eq_true]; exact .inl ho
  rcases ho with h | h
  · obtain ⟨ns, hi⟩ := p2_ints p2 h
    refine wpAny_bind (wpAny_holding (wpAny_call_entry slot_list_sort ⟨_, hoL, rfl⟩ entry_list_sort (list_sort_treeKAny intKind_oneLt hoL hi.keysOfInt (fun v₁ v₂ rest e => keyKind_ints (by rw [← e]; exact hi)) hsz fun st' hp hs => ⟨_, rfl, ?_⟩) (args_list_sort _)))
    refine wpAny_pure ⟨_, rfl, fin _ (sort_out (κ := intKind) (fun v d _ r hd => ?_) (fun v d u e a b r1 r2 hd he k1 k2 k3 => ?_) p2 hp hs hso)⟩
    · obtain ⟨i, rfl⟩ := allInt_mem h d hd
      obtain ⟨t, rfl⟩ := rvd_int r
      exact ⟨i, rfl⟩
    · obtain ⟨i, rfl⟩ := allInt_mem h d hd
      obtain ⟨j, rfl⟩ := allInt_mem h e he
      obtain ⟨t, rfl⟩ := rvd_int r1
      obtain ⟨t2, rfl⟩ := rvd_int r2
      have k1 : some i = some a := k1
      have k2 : some j = some b := k2
      injection k1 with k1; injection k2 with k2
      subst k1; subst k2
      have k3 : decide (j < i) = false := k3
      show (!(decide (j < i) || (!decide (i < j) && false))) = true
      rw [k3]; simp
  · obtain ⟨ns, hi⟩ := p2_strs p2 h
    refine wpAny_bind (wpAny_holding (wpAny_call_entry slot_list_sort ⟨_, hoL, rfl⟩ entry_list_sort (list_sort_treeKAny strKind_oneLt hoL hi.keysOf (fun v₁ v₂ rest e => keyKind_strs (by rw [← e]; exact hi)) hsz fun st' hp hs => ⟨_, rfl, ?_⟩) (args_list_sort _)))
    refine wpAny_pure ⟨_, rfl, fin _ (sort_out (κ := strKind) (fun v d _ r hd => ?_) (fun v d u e a b r1 r2 hd he k1 k2 k3 => ?_) p2 hp hs hso)⟩
    · obtain ⟨i, rfl⟩ := allStr_mem h d hd
      obtain ⟨t, rfl⟩ := rvd_str r
      exact ⟨_, rfl⟩
    · obtain ⟨i, rfl⟩ := allStr_mem h d hd
      obtain ⟨j, rfl⟩ := allStr_mem h e he
      obtain ⟨t, rfl⟩ := rvd_str r1
      obtain ⟨t2, rfl⟩ := rvd_str r2
      have k1 : some i.cps.toList = some a := k1
      have k2 : some j.cps.toList = some b := k2
      injection k1 with k1; injection k2 with k2
      subst k1; subst k2
      have k3 : decide (j.cps.toList < i.cps.toList) = false := k3
      show (!(decide (j.cps.toList < i.cps.toList) || (!decide (i.cps.toList < j.cps.toList) && false))) = true
      rw [k3]; simp
end
end T
set_option Elab.async false
set_option linter.all false
set_option maxRecDepth 100000
set_option maxHeartbeats 4000000
/-! TLd: subscripts and slices. -/
namespace L2
open PySem PySem.Spec PyProof.Rows HT
section
variable {prog : Program} {w : World} {A : Around} {E : Value → Shared → Prop} {s : Shared}
theorem sliceApplied_rev {sl : Addr} {vl vu vs : Value} {n : Nat} {Q : Int × Int × Nat → Shared → Prop} (hs : s.heap.IsSliceOf sl vl vu vs) (pl : IsPart vl none) (pu : IsPart vu none) (ps : IsPart vs (some (-1)))
    (h : Q ((n : Int) - 1, -1, n) s) : wpAny (model prog w) A (Builtin.Slice.sliceApplied (.ref sl) (pure (n : Int))) Q E s := by
  obtain ⟨os, hos, hcs, hds⟩ := id hs
  unfold Builtin.Slice.sliceApplied Builtin.Slice.sliceFields
  refine wpAny_bind (wpAny_bind (wpAny_field hos hds (x := vl) rfl (wpAny_bind (wpAny_field hos hds (x := vu) rfl (wpAny_bind (wpAny_field hos hds (x := vs) rfl (wpAny_pure ?_)))))))
  refine wpAny_bind (slicePart_ ps ?_)
  show wpAny _ _ (if ((-1 : Int) == 0) = true then _ else _) _ _ s
  rw [if_neg (by decide)]
  refine wpAny_bind (slicePart_ pl (wpAny_bind (slicePart_ pu (wpAny_bind (wpAny_pure ?_)))))
  have e1 : Builtin.Slice.sliceAdjust none none (-1) (n : Int) = ((n : Int) - 1, -1) := by
    unfold Builtin.Slice.sliceAdjust
    simp
  have e2 : Builtin.Slice.slicePlaces ((n : Int) - 1) (-1) (-1) = n := by
    unfold Builtin.Slice.slicePlaces
    simp
    try omega
  show wpAny _ _ (match Builtin.Slice.sliceAdjust none none (-1) (n : Int) with | (lo, hi) => pure (lo, (-1 : Int), Builtin.Slice.slicePlaces lo hi (-1))) _ _ s
  rw [e1]
  show wpAny _ _ (pure ((n : Int) - 1, (-1 : Int), Builtin.Slice.slicePlaces ((n : Int) - 1) (-1) (-1))) _ _ s
  rw [e2]
  exact wpAny_pure h
theorem pick_rev (xs : Array Value) : ((List.range xs.size).filterMap fun (m : Nat) => xs[((xs.size : Int) - 1 + (m : Int) * -1).toNat]?).toArray = xs.toList.reverse.toArray := by
  congr 1
  have e : ∀ m ∈ List.range xs.size, xs[((xs.size : Int) - 1 + (m : Int) * -1).toNat]? = xs.toList.reverse[m]? := by
    intro m hm
    have hm : m < xs.size := List.mem_range.mp hm
    rw [List.getElem?_reverse (by simpa using hm)]
    have : ((xs.size : Int) - 1 + (m : Int) * -1).toNat = xs.size - 1 - m := by omega
    rw [this]
    simp
  have e3 : ∀ (f g : Nat → Option Value) (l : List Nat), (∀ m ∈ l, f m = g m) → l.filterMap f = l.filterMap g := by
    intro f g l
    induction l with
    | nil => intro _; rfl
    | cons a l ih => intro h; rw [List.filterMap_cons, List.filterMap_cons, h a List.mem_cons_self, ih fun m hm => h m (List.mem_cons_of_mem _ hm)]
  rw [e3 _ _ _ e]
  have e4 : ∀ l : List Value, (List.range l.length).filterMap (fun m => l[m]?) = l := by
    intro l
    induction l with
    | nil => rfl
    | cons a l ih =>
      rw [List.length_cons, List.range_succ_eq_map, List.filterMap_cons, List.filterMap_map]
      show a :: _ = a :: l
      exact congrArg (a :: ·) ih
  have := e4 xs.toList.reverse
  rwa [List.length_reverse, Array.length_toList] at this
theorem getItem_tuple_rev {t sl : Addr} {items : Array Value} {vl vu vs : Value} {Q : Value → Shared → Prop} (ht : IsTup s.heap t items) (hs : s.heap.IsSliceOf sl vl vu vs) (pl : IsPart vl none) (pu : IsPart vu none) (ps : IsPart vs (some (-1)))
    (h : Q (.ref s.heap.objs.size) { s with heap := s.heap.push { cls := .type "tuple", data := .seq items.toList.reverse.toArray } })
    (hsz : items.size ≤ sizeLine) : wpAny (model prog w) A (getItem (.ref t) (.ref sl)) Q E s := by
  have htake : sizeOk (.seq items.toList.reverse.toArray) := by
    show items.toList.reverse.toArray.size ≤ sizeLine
    rw [List.size_toArray, List.length_reverse, Array.length_toList]
    omega
  obtain ⟨os, hos, hcs, hds⟩ := id hs
  have hTs : s.TypeIs (.ref sl) "slice" := ⟨os, hos, hcs⟩
  unfold getItem
  try with_reducible refine wpAny_holding ?_
  first | refine wpAny_bind (wpAny_pure ?_) | skip
  refine wpAny_bind (wpAny_sequenceKey ht.typeIs (by decide) ?_)
  refine wpAny_bind (wpAny_callSpecial?_slot (name := Str.ofString "__getitem__") ht.typeIs PyProof.Rows.slot_tuple_getitem
    (wpAny_call_entry PyProof.Rows.slot_tuple_getitem ht.typeIs entry_tuple_getitem ?_ (args_tuple_getitem _ _)))
  show wpAny _ _ (Builtin.Tuple.tupleItemsOf (.ref t) >>= _) _ _ s
  refine wpAny_bind (tupleItemsOf_ ht ?_)
  refine wpAny_bind (wpAny_typeOf hTs ?_)
  rw [if_pos (by decide)]
  refine wpAny_bind (sliceApplied_rev hs pl pu ps ?_)
  have hno : ¬ ((((items.size : Int) - 1) == 0 && (-1 : Int) == 1 && items.size == items.size) = true) := by
    intro q
    rw [Bool.and_eq_true, Bool.and_eq_true] at q
    exact absurd q.1.2 (by decide)
  show wpAny _ _ (if (((items.size : Int) - 1) == 0 && (-1 : Int) == 1 && items.size == items.size) = true then _ else _) _ _ s
  rw [if_neg hno, pick_rev]
  first
    | exact wpAny_bind (m := Builtin.Tuple.tupleExact _) (wpAny_newObj_type (wpAny_pure ⟨_, rfl, wpAny_pure h⟩) htake)
    | exact wpAny_bind (m := Builtin.Tuple.tupleExact _) (wpAny_newObj_type (wpAny_bind (wpAny_pure (wpAny_pure ⟨_, rfl, wpAny_pure h⟩))) htake)
    | exact wpAny_bind (wpAny_bind (m := Builtin.Tuple.tupleExact _) (wpAny_newObj_type (wpAny_pure (wpAny_pure ⟨_, rfl, wpAny_pure h⟩)) htake))
    | exact wpAny_bind (wpAny_bind (m := Builtin.Tuple.tupleExact _) (wpAny_newObj_type (wpAny_pure ⟨_, rfl, wpAny_pure h⟩) htake))
end
section
variable {X : Cx}
/-- xs[::-1] of a list or a tuple -/
def revS (z : Str) : Str := ⟨z.cps.toList.reverse.toArray⟩
theorem revS_length (z : Str) : (revS z).length = z.length := by
  show (z.cps.toList.reverse.toArray).size = z.cps.size
  simp
theorem pick_revS (z : Str) : ((Builtin.Str.strSliceIndices none none (-1) z.length).filterMap (z.cps[·]?)).toArray = z.cps.toList.reverse.toArray := by
  congr 1
  have e0 : Builtin.Str.strSliceIndices none none (-1) z.length = (List.range z.length).map fun (k : Nat) => (((z.length : Int) - 1) + (-1) * (k : Int)).toNat := by
    unfold Builtin.Str.strSliceIndices sliceRange
    simp only [show ¬ ((-1 : Int) > 0) by decide, if_false]
    by_cases h : (z.length : Int) - 1 > -1
    · rw [if_pos h]
      congr 2
      have : ((z.length : Int) - 1 - -1 - -1 - 1) / (- -1) = z.length := by
        rw [show (- -1 : Int) = 1 by decide, Int.ediv_one]; omega
      rw [this]; rfl
    · rw [if_neg h]
      have : z.length = 0 := by omega
      rw [this]; rfl
  rw [e0]
  have key : ∀ l : List Nat, (List.range l.length).filterMap (fun m => l.reverse[m]?) = l.reverse := by
    intro l
    have e4 : ∀ l : List Nat, (List.range l.length).filterMap (fun m => l[m]?) = l := by
      intro l
      induction l with
      | nil => rfl
      | cons a l ih =>
        rw [List.length_cons, List.range_succ_eq_map, List.filterMap_cons, List.filterMap_map]
        show a :: _ = a :: l
        exact congrArg (a :: ·) ih
    have := e4 l.reverse
    rwa [List.length_reverse] at this
  have k2 := key z.cps.toList
  rw [← k2, List.filterMap_map]
  have hl : z.cps.toList.length = z.length := by simp [Str.length]
  rw [hl]
  have e3 : ∀ (f g : Nat → Option Nat) (l : List Nat), (∀ m ∈ l, f m = g m) → l.filterMap f = l.filterMap g := by
    intro f g l
    induction l with
    | nil => intro _; rfl
    | cons a l ih => intro h; rw [List.filterMap_cons, List.filterMap_cons, h a List.mem_cons_self, ih fun m hm => h m (List.mem_cons_of_mem _ hm)]
  refine e3 _ _ _ fun m hm => ?_
  have hm : m < z.length := List.mem_range.mp hm
  rw [List.getElem?_reverse (by rw [hl]; exact hm), hl]
  show z.cps[(((z.length : Int) - 1) + (-1) * (m : Int)).toNat]? = _
  rw [show (((z.length : Int) - 1) + (-1) * (m : Int)).toNat = z.length - 1 - m by omega]
  simp
def tRevA (K : PySem.W.Frag) (te : TE) : TE := fun σ H Q => te σ H fun x H1 => (∃ a xs, x = .ref a ∧ ((SqL K H1 a xs ∧ ∀ p, H1 p = none → Q (.ref p) (upd H1 p (.lst xs.reverse))) ∨ (SqT K H1 a xs ∧ ∀ p, H1 p = none → Q (.ref p) (upd H1 p (.tup xs.reverse))))) ∨ ∃ z, x = .str z ∧ z.length ≤ sizeLine ∧ Q (.str (revS z)) H1
theorem pe_revA {e : Expr} {te : TE} {k : Nat} {p1 p2 p3 pos : Pos} (he : PE X e te) : PE X (.Subscript e (.Slice none none (some (.UnaryOp .USub (.Constant (.int 1) k p1) p2)) p3) pos) (tRevA X.K te) := by
  refine ⟨fun pins s σ H Q I h => ?_⟩
  refine Subscript_ (thn (he.run pins s σ H _ I h) fun v s1 ⟨x, H1, I1, r1, q1⟩ => ?_)
  have hst : PO X (some (.UnaryOp .USub (.Constant (.int 1) k p1) p2)) (tPart (tUn (rU fun i => .int (-i)) (tC (.int 1)))) := po_some (pe_un un_neg pe_int)
  refine wpAny_Slice (thn (po_none.run pins s1 σ H1 (fun o H2 => o = none ∧ H2 = H1) I1 ⟨rfl, rfl⟩) fun vl s2 ⟨l, H2, I2, pl, el, e2⟩ => ?_)
  subst el e2
  refine thn (po_none.run pins s2 σ H2 (fun o H3 => o = none ∧ H3 = H2) I2 ⟨rfl, rfl⟩) fun vu s3 ⟨u, H3, I3, pu, eu, e3⟩ => ?_
  subst eu e3
  refine thn (hst.run pins s3 σ H3 (fun o H4 => o = some (-1) ∧ H4 = H3) I3 ⟨1, rfl, -1, rfl, rfl, rfl⟩) fun vs s4 ⟨o, H4, I4, ps, eo, e4⟩ => ?_
  subst eo e4
  have I5 : Inv X pins σ H4 { s4 with heap := s4.heap.push { cls := .type "slice", data := .fields #[vl, vu, vs] } } := I4.kept (t' := s4.toks) fun b ob q => Heap.get?_push_of_some _ q
  rcases q1 with ⟨a, xs, ex, hx⟩ | ⟨z, ez, hz, q⟩
  rotate_left
  · subst ez
    obtain ⟨t, rfl⟩ := r1
    obtain ⟨ll, rfl, el⟩ := IsPart.raw pl
    obtain ⟨uu, rfl, eu⟩ := IsPart.raw pu
    obtain ⟨ss, rfl, es⟩ := IsPart.raw ps
    have el : ll = none := by cases ll <;> simp_all
    have eu : uu = none := by cases uu <;> simp_all
    subst el eu
    show wpAny (model X.prog X.w) X.A (subscriptTail e (.Slice none none (some (.UnaryOp .USub (.Constant (.int 1) k p1) p2)) p3) (.str z t) (.ref s4.heap.objs.size)) (EP X pins σ Q) X.xe { s4 with heap := s4.heap.push { cls := .type "slice", data := .fields #[partValue none, partValue none, partValue ss] } }
    refine tail_any (ops := [.str z t, .ref s4.heap.objs.size]) (typeIs_str _ z t) (F.slot_str_getitem.lookup) ?_ (by with_unfolding_all rfl)
    have hs1 : ss.map (·.1) = some (-1) := es
    refine wpAny_getItem_str_slice (l := none) (u := none) (st := ss) ⟨_, Heap.get?_push_size _ rfl, rfl, rfl⟩ (by rw [hs1]; rfl) ?_
    have e1 : sliceMade z t none none ss = .str (revS z) := by
      unfold sliceMade slicePicked
      rw [hs1]
      show (if ((-1 : Int) == 1 && _) = true then _ else _) = _
      rw [if_neg (by simp)]
      show Made.str ⟨((Builtin.Str.strSliceIndices none none (-1) z.length).filterMap (z.cps[·]?)).toArray⟩ = _
      rw [pick_revS]; rfl
    rw [e1]
    exact ⟨by rw [revS_length]; exact hz, .str _, _, I5.tok _, ⟨_, rfl⟩, q⟩
  subst ex
  cases r1
  rcases hx with ⟨hx, q⟩ | ⟨hx, q⟩
  · obtain ⟨its, r, ht, hz⟩ := I5.list hx
    have hlen := r.length
    show wpAny (model X.prog X.w) X.A (subscriptTail e (.Slice none none (some (.UnaryOp .USub (.Constant (.int 1) k p1) p2)) p3) (.ref a) (.ref s4.heap.objs.size)) (EP X pins σ Q) X.xe { s4 with heap := s4.heap.push { cls := .type "slice", data := .fields #[vl, vu, vs] } }
    refine tail_any (ops := [.ref a, .ref s4.heap.objs.size]) ht.isList.typeIs (PySem.slot_list_getitem.lookup) ?_ (by with_unfolding_all rfl)
    refine wpAny_getItem_list_slice ht.isList (Heap.IsSliceOf.new _ vl vu vs) pl pu ps (by decide) ?_ (by rw [List.size_toArray]; omega)
    rw [PySem.W.krv_pick]
    refine ⟨.ref _, _, I5.laid (t' := s4.toks) (o := .lst xs.reverse) (fun b ob q => Heap.get?_push_of_some _ q) (Nat.le_refl _) ?_, rfl, q _ (I5.hok.fresh (Nat.le_refl _))⟩
    exact ⟨by rw [List.length_reverse]; exact hz, _, 0, r.reverse, Heap.get?_push_size _ rfl⟩
  · obtain ⟨its, r, ht, hz⟩ := I5.tuple hx
    have hlen := r.length
    show wpAny (model X.prog X.w) X.A (subscriptTail e (.Slice none none (some (.UnaryOp .USub (.Constant (.int 1) k p1) p2)) p3) (.ref a) (.ref s4.heap.objs.size)) (EP X pins σ Q) X.xe { s4 with heap := s4.heap.push { cls := .type "slice", data := .fields #[vl, vu, vs] } }
    refine tail_any (ops := [.ref a, .ref s4.heap.objs.size]) ht.typeIs (PyProof.Rows.slot_tuple_getitem.lookup) ?_ (by with_unfolding_all rfl)
    refine getItem_tuple_rev ht (Heap.IsSliceOf.new _ vl vu vs) pl pu ps ?_ (by rw [List.size_toArray]; omega)
    refine ⟨.ref _, _, I5.laid (t' := s4.toks) (o := .tup xs.reverse) (fun b ob q => Heap.get?_push_of_some _ q) (Nat.le_refl _) ?_, rfl, q _ (I5.hok.fresh (Nat.le_refl _))⟩
    exact ⟨by rw [List.length_reverse]; exact hz, its.reverse, r.reverse, ⟨_, Heap.get?_push_size _ rfl, rfl, 0, by simp⟩⟩
end
end L2
namespace T
open PySem PySem.Spec L2
open PyProof.Rows hiding St
def seqD (s : S) : D → Option (List D)
  | .tup ds => some ds
  | .rol ds => some ds
  | .ref n => lsAt s n
  | _ => none
def idx2 (a b : D) (s : S) : Option (D × S) := match b with
  | .int i => match a with
    | .str z => if z.length ≤ 1000000 then match atI z.cps.toList i with
        | some c => some (.str ⟨#[c]⟩, s)
        | none => none else none
    | _ => match seqD s a with
      | some ds => match atI ds i with
        | some d => some (d, s)
        | none => none
      | none => match a with
        | .ref n => match dcR s n with
          | some kvs => match valD kvs (.inl i) with
            | some d => some (d, s)
            | none => none
          | none => none
        | _ => none
  | .str x => match a with
    | .ref n => match dcR s n with
      | some kvs => match valD kvs (.inr x) with
        | some d => some (d, s)
        | none => none
      | none => none
    | _ => none
  | _ => none
def cutD (xs : List D) (lo hi : Option Int) : List D := (xs.drop (HT.sIx xs.length 0 lo)).take (HT.sIx xs.length xs.length hi - HT.sIx xs.length 0 lo)
def slc (a : D) (lo hi : Option Int) (s : S) : Option (D × S) := match a with
  | .str z => if z.length ≤ 1000000 then some (.str (cutS z lo hi), s) else none
  | .tup ds => some (.tup (cutD ds lo hi), s)
  | .rol ds => some (.ref s.length, s ++ [.lst (cutD ds lo hi)])
  | .ref n => match lsAt s n with
    | some ds => some (.ref s.length, s ++ [.lst (cutD ds lo hi)])
    | none => none
  | _ => none
def rev1 (a : D) (s : S) : Option (D × S) := match a with
  | .str z => if z.length ≤ 1000000 then some (.str (L2.revS z), s) else none
  | .tup ds => some (.tup ds.reverse, s)
  | .rol ds => some (.ref s.length, s ++ [.lst ds.reverse])
  | .ref n => match lsAt s n with
    | some ds => some (.ref s.length, s ++ [.lst ds.reverse])
    | none => none
  | _ => none
section
variable {X : Cx} {ad : Ad} {W : WX} {e a b : Expr} {pos : Pos}
theorem RDs.atI {K : PySem.W.Frag} {m : List Addr} {H : Hp} {vs : List V} {ds : List D} {i : Int} {d : D} (r : RDs K m H vs ds) (h : L2.atI ds i = some d) : ∃ v, L2.atI vs i = some v ∧ RD K m H v d := by
  unfold L2.atI at h ⊢
  rw [r.length]
  cases hx : ixN ds.length i with
  | none => rw [hx] at h; cases h
  | some j =>
    rw [hx] at h
    obtain ⟨v, h1, h2⟩ := r.get (i := j) h
    exact ⟨v, h1, h2⟩
theorem i_idx (hu : X.A.units + 100 < cLine) : IxR X (L2R X.K ad idx2) := by
  intro value slice pins st σ H x y v u Q I rx ry ⟨m, s, d, e, hr, r1, r2, h⟩ hs
  cases r2 with
  | int i =>
    cases r1 with
    | str z =>
      simp only [idx2] at h
      split at h
      · rename_i hl
        split at h
        · rename_i c hc
          exact ix_str value slice pins st σ H _ _ v u Q I rx ry ⟨z, i, c, rfl, rfl, lim hl, hc, h m H _ .refl hr (.str _)⟩ hs
        · exact h.elim
      · exact h.elim
    | @tup p vs ds q rs =>
      simp only [idx2, seqD] at h
      split at h
      · rename_i d hd
        obtain ⟨w, h1, h2⟩ := rs.atI hd
        exact ix_tup value slice pins st σ H _ _ v u Q I rx ry ⟨p, vs, i, w, rfl, rfl, q, h1, h m H _ .refl hr h2⟩ hs
      · exact h.elim
    | @rol p vs ds q rs =>
      simp only [idx2, seqD] at h
      split at h
      · rename_i d hd
        obtain ⟨w, h1, h2⟩ := rs.atI hd
        exact ix_list value slice pins st σ H _ _ v u Q I rx ry ⟨p, vs, i, w, rfl, rfl, q.sql, h1, h m H _ .refl hr h2⟩ hs
      · exact h.elim
    | @ref p n hn =>
      simp only [idx2, seqD] at h
      split at h
      · rename_i ds hds
        obtain ⟨vs, e1, rs⟩ := hr.lst hn hds
        split at h
        · rename_i d hd
          obtain ⟨w, h1, h2⟩ := rs.atI hd
          exact ix_list value slice pins st σ H _ _ v u Q I rx ry ⟨p, vs, i, w, rfl, rfl, SqL.of e1, h1, h m H _ .refl hr h2⟩ hs
        · exact h.elim
      · split at h
        · rename_i kvs hd
          split at h
          · rename_i d hv
            obtain ⟨kws, e1, s1⟩ := dcR_at hr hn hd
            rcases rks_val s1 (.inl i) with ⟨w, d2, z1, z2, z3⟩ | ⟨_, z2⟩
            · rw [hv] at z2; cases z2
              exact ix_dic (by omega) value slice pins st σ H _ _ v u Q I rx ry ⟨p, kws, .inl i, w, rfl, e1, rfl, z1, h m H _ .refl hr z3⟩ hs
            · rw [hv] at z2; cases z2
          · exact h.elim
        · exact h.elim
    | _ => exact h.elim
  | str x =>
    cases r1 with
    | @ref p n hn =>
      simp only [idx2] at h
      split at h
      · rename_i kvs hd
        split at h
        · rename_i d hv
          obtain ⟨kws, e1, s1⟩ := dcR_at hr hn hd
          rcases rks_val s1 (.inr x) with ⟨w, d2, z1, z2, z3⟩ | ⟨_, z2⟩
          · rw [hv] at z2; cases z2
            exact ix_dic (by omega) value slice pins st σ H _ _ v u Q I rx ry ⟨p, kws, .inr x, w, rfl, e1, rfl, z1, h m H _ .refl hr z3⟩ hs
          · rw [hv] at z2; cases z2
        · exact h.elim
      · exact h.elim
    | _ => exact h.elim
  | tup _ _ => exact h.elim
  | rol _ _ => exact h.elim
  | ref _ => exact h.elim
  | _ => exact h.elim
theorem RDs.cut {K : PySem.W.Frag} {m : List Addr} {H : Hp} {vs : List V} {ds : List D} (r : RDs K m H vs ds) (lo hi : Option Int) : RDs K m H (cutV vs lo hi) (cutD ds lo hi) := by
  unfold cutV cutD
  rw [r.length]
  exact (r.drop _).take _
/-- a slice's reading by values -/
def LSl (K : PySem.W.Frag) (ad : Ad) : V → Option Int → Option Int → Hp → VK → Prop := fun x lo hi H Q => ∃ m s d, HR K ad.ca m s H ∧ RD K m H x d ∧ Out K ad (fun _ _ _ _ => False) [] m H (RD K) Q (R.of (slc d lo hi s))
theorem s_slc : SlR X (LSl X.K ad) := by
  intro pins st σ H x v vl vu lo hi sl Q I rx hs pl pu ⟨m, s, d, hr, r1, h⟩
  cases r1 with
  | str z =>
    simp only [slc] at h
    split at h
    · rename_i hl
      exact sl_str pins st σ H _ v vl vu lo hi sl Q I rx hs pl pu ⟨z, rfl, lim hl, h m H _ .refl hr (.str _)⟩
    · exact h.elim
  | @tup a vs ds q rs =>
    refine sl_tupA pins st σ H _ v vl vu lo hi sl Q I rx hs pl pu ⟨a, vs, rfl, q, fun hw => ?_, fun _ => new_tup hr (rs.cut lo hi) h⟩
    have e : cutD ds lo hi = ds := by
      unfold cutD
      rw [← rs.length, hw.1, hw.2, List.drop_zero, Nat.sub_zero, rs.length, List.take_length]
    have h' : Out X.K ad (fun _ _ _ _ => False) [] m H (RD X.K) Q (R.ok (.tup (cutD ds lo hi)) s) := h
    rw [e] at h'
    exact h' m H _ .refl hr (.tup q rs)
  | @rol a vs ds q rs => exact sl_list pins st σ H _ v vl vu lo hi sl Q I rx hs pl pu ⟨a, vs, rfl, q.sql, new_lst hr (rs.cut lo hi) h⟩
  | @ref a n hn =>
    simp only [slc] at h
    split at h
    · rename_i ds hds
      obtain ⟨vs, e1, rs⟩ := hr.lst hn hds
      exact sl_list pins st σ H _ v vl vu lo hi sl Q I rx hs pl pu ⟨a, vs, rfl, SqL.of e1, new_lst hr (rs.cut lo hi) h⟩
    · exact h.elim
  | _ => exact h.elim
/-- a slice's part -/
def LP (K : PySem.W.Frag) (ad : Ad) (W : WX) (f : Env → S → R (Option Int)) : TO := fun σ H Q => ∃ m s env, HR K ad.ca m s H ∧ ER K m H σ env ∧ Out K ad W σ m H (fun _ _ (x y : Option Int) => x = y) Q (f env s)
theorem lp_none : PO X none (LP X.K ad W fun _ s => .ok none s) := ⟨fun pins st σ H Q I h => by
  obtain ⟨m, s, env, hr, er, h⟩ := h
  exact po_none.run pins st σ H Q I (h m H none .refl hr rfl)⟩
theorem lp_some {fa : Env → S → R D} (h : PE X e (LE X.K ad W fa)) : PO X (some e) (LP X.K ad W fun env s => (fa env s).bind fun x s1 => match x with | .int i => .ok (some i) s1 | _ => .no) := ⟨fun pins st σ H Q I hh => by
  obtain ⟨m, s, env, hr, er, hh⟩ := hh
  refine (po_some h).run pins st σ H Q I ⟨m, s, env, hr, er, hh.bind fun x s1 m1 H1 v _ x1 hr1 rv h1 => ?_⟩
  split at h1
  · cases rv; exact ⟨_, rfl, h1 m1 H1 _ .refl hr1 rfl⟩
  · exact h1.elim⟩
theorem le_slc {lo hi : Option Expr} {p2 : Pos} {fa : Env → S → R D} {fl fh : Env → S → R (Option Int)} (ha : PE X e (LE X.K ad W fa)) (hl : PO X lo (LP X.K ad W fl)) (hu : PO X hi (LP X.K ad W fh)) :
    PE X (.Subscript e (.Slice lo hi none p2) pos) (LE X.K ad W fun env s => (fa env s).bind fun x s1 => (fl env s1).bind fun l s2 => (fh env s2).bind fun u s3 => R.of (slc x l u s3)) :=
  (pe_slice s_slc ha hl hu).imp fun σ H Q ⟨m, s, env, hr, er, h⟩ => ⟨m, s, env, hr, er, h.bind fun x s1 m1 H1 v _ x1 hr1 rv h1 =>
    ⟨m1, s1, env, hr1, er.mono x1.toLe, h1.bind fun l s2 m2 H2 u _ x2 hr2 ru h2 => ⟨m2, s2, env, hr2, (er.mono x1.toLe).mono x2.toLe, h2.bind fun l' s3 m3 H3 u' _ x3 hr3 ru' h3 => by
      cases ru; cases ru'
      exact ⟨m3, s3, x, hr3, (rv.mono x2.toLe).mono x3.toLe, h3.of_any⟩⟩⟩⟩
theorem le_rev {k : Nat} {p1 p2 p3 : Pos} {fa : Env → S → R D} (ha : PE X e (LE X.K ad W fa)) : PE X (.Subscript e (.Slice none none (some (.UnaryOp .USub (.Constant (.int 1) k p1) p2)) p3) pos) (LE X.K ad W fun env s => (fa env s).bind fun x s1 => R.of (rev1 x s1)) :=
  (pe_revA ha).imp fun σ H Q ⟨m, s, env, hr, er, h⟩ => ⟨m, s, env, hr, er, h.bind fun x s1 m1 H1 v _ x1 hr1 rv h1 => by
    cases rv with
    | @tup a vs ds q rs => exact .inl ⟨a, vs, rfl, .inr ⟨q, new_tup hr1 rs.reverse h1⟩⟩
    | @rol a vs ds q rs => exact .inl ⟨a, vs, rfl, .inl ⟨q.sql, new_lst hr1 rs.reverse h1⟩⟩
    | str z =>
      simp only [rev1] at h1
      split at h1
      · rename_i hl
        exact .inr ⟨z, rfl, by rw [sizeLine_eq]; omega, h1 m1 H1 _ .refl hr1 (.str _)⟩
      · exact h1.elim
    | @ref a n hn =>
      simp only [rev1] at h1
      split at h1
      · rename_i ds hds
        obtain ⟨vs, e1, rs⟩ := hr1.lst hn hds
        exact .inl ⟨a, vs, rfl, .inl ⟨SqL.of e1, new_lst hr1 rs.reverse h1⟩⟩
      · exact h1.elim
    | _ => exact h1.elim⟩
end
end T
set_option Elab.async false
set_option linter.all false
set_option maxRecDepth 100000
set_option maxHeartbeats 4000000
/-! TLu: max, min of a tuple of ints. -/
namespace T
open PySem PySem.Spec L2
open PyProof.Rows hiding St
section
variable {prog : Program} {w : World} {A : Around} {E : Value → Shared → Prop} {s : Shared} {l : Addr} {xs : Array (Int × Tok)} {its : List Value} {ns : List Int}
theorem iter_intTup {Q : Value → Shared → Prop} (hl : s.heap.IsTuple l (intItems xs))
    (h : ∀ s₂ : Shared, s₂ = { s with heap := s.heap.push { cls := .type "tuple_iterator", data := .fields #[.ref l, .int 0 0] } } →
      (s₂.heap.IsTupleIter s.heap.objs.size l 0 ∧ s₂.heap.IsTuple l (intItems xs)) → (∀ b ∈ [s.heap.objs.size, l], b < s₂.heap.objs.size) → l ≠ s.heap.objs.size → Q (.ref s.heap.objs.size) s₂) :
    wpAny (model prog w) A (pyIter (.ref l)) Q E s := by
  have hlt : l < s.heap.objs.size := by obtain ⟨_, e, _⟩ := hl; exact Heap.lt_size e
  refine wpAny_pyIter_tuple hl (h _ rfl ⟨⟨_, Heap.get?_push_size _ rfl, rfl, rfl⟩, hl.push _⟩ (fun b hb => ?_) (Nat.ne_of_lt hlt))
  show b < (s.heap.push _).objs.size
  rw [Heap.size_push]
  rcases List.mem_cons.mp hb with rfl | hb
  · exact Nat.lt_succ_self _
  · rcases List.mem_cons.mp hb with rfl | hb
    · exact Nat.lt_succ_of_lt hlt
    · cases hb
theorem old_keptT {h h' : Heap} {ob : Obj} (hk : ∀ b o, ¬b ∈ [h.objs.size] → (h.push ob).get? b = some o → h'.get? b = some o) : ∀ b o, h.get? b = some o → h'.get? b = some o := fun b o e => by
  refine hk b o (fun hm => ?_) (Heap.get?_push_of_some _ e)
  simp only [List.mem_singleton] at hm
  have := Heap.lt_size e
  rw [hm] at this
  exact Nat.lt_irrefl _ this
theorem max_intTup {Q : Value → Shared → Prop} (hh : A.handled = none) (hl : s.heap.IsTuple l (intItems xs)) (hne : 0 < xs.size)
    (h : ∀ v h' tk, (intItems xs)[argBest (fun i j => decide (numAt xs i > numAt xs j)) (xs.size - 1)]? = some v → (∀ b o, s.heap.get? b = some o → h'.get? b = some o) → Q v { s with heap := h', toks := tk }) :
    wpAny (model prog w) A (call (.builtin "max") [.ref l]) Q E s := by
  refine call_max_walk (iter_intTup hl fun s₂ e st hfp hlI => ?_)
  subst e
  refine ⟨_, _, _, _, _, _, _, rfl, Walks.tuple (A := A.in1) hh _ l hlI (intItems xs), st, hfp, by simpa [intItems] using hne, CmpOf.ints_gt (numAt xs) (fun _ _ => intItems_at), fun v h' tk hP hk => ?_⟩
  exact h v h' tk (by simpa [intItems] using hP) (old_keptT hk)
theorem min_intTup {Q : Value → Shared → Prop} (hh : A.handled = none) (hl : s.heap.IsTuple l (intItems xs)) (hne : 0 < xs.size)
    (h : ∀ v h' tk, (intItems xs)[argBest (fun i j => decide (numAt xs i < numAt xs j)) (xs.size - 1)]? = some v → (∀ b o, s.heap.get? b = some o → h'.get? b = some o) → Q v { s with heap := h', toks := tk }) :
    wpAny (model prog w) A (call (.builtin "min") [.ref l]) Q E s := by
  refine call_min_walk (iter_intTup hl fun s₂ e st hfp hlI => ?_)
  subst e
  refine ⟨_, _, _, _, _, _, _, rfl, Walks.tuple (A := A.in1) hh _ l hlI (intItems xs), st, hfp, by simpa [intItems] using hne, CmpOf.ints_lt (numAt xs) (fun _ _ => intItems_at), fun v h' tk hP hk => ?_⟩
  exact h v h' tk (by simpa [intItems] using hP) (old_keptT hk)
theorem max_rawT {Q : Value → Shared → Prop} (hh : A.handled = none) (hl : s.heap.IsTuple l its.toArray) (hi : IntsAre its ns) (hne : 0 < ns.length)
    (h : ∀ h' tk M t', (∀ b o, s.heap.get? b = some o → h'.get? b = some o) → M ∈ ns → (∀ a, a ∈ ns → a ≤ M) → Q (.int M t') { s with heap := h', toks := tk }) : wpAny (model prog w) A (call (.builtin "max") [.ref l]) Q E s := by
  obtain ⟨xs, e⟩ := hi.allInts.items
  have hn : numsOf (intItems xs).toList = ns := by rw [← e]; exact hi.numsOf
  rw [nums_intItems] at hn
  subst hn
  rw [e] at hl
  have hsz : 0 < xs.size := by simpa using hne
  refine max_intTup hh hl hsz fun v h' tk hv hk => ?_
  obtain ⟨t, rfl⟩ := intItems_at hv
  obtain ⟨h1, h2⟩ := argBest_gt (numAt xs) (xs.size - 1)
  refine h h' tk _ t hk ?_ fun a ha => ?_
  · rw [numAt_eq]; exact PySem.getD_mem (by rw [List.length_map, Array.length_toList]; omega)
  · obtain ⟨j, hj, rfl⟩ := mem_getD ha
    rw [List.length_map, Array.length_toList] at hj
    rw [← numAt_eq]; exact h2 j (by omega)
theorem min_rawT {Q : Value → Shared → Prop} (hh : A.handled = none) (hl : s.heap.IsTuple l its.toArray) (hi : IntsAre its ns) (hne : 0 < ns.length)
    (h : ∀ h' tk M t', (∀ b o, s.heap.get? b = some o → h'.get? b = some o) → M ∈ ns → (∀ a, a ∈ ns → M ≤ a) → Q (.int M t') { s with heap := h', toks := tk }) : wpAny (model prog w) A (call (.builtin "min") [.ref l]) Q E s := by
  obtain ⟨xs, e⟩ := hi.allInts.items
  have hn : numsOf (intItems xs).toList = ns := by rw [← e]; exact hi.numsOf
  rw [nums_intItems] at hn
  subst hn
  rw [e] at hl
  have hsz : 0 < xs.size := by simpa using hne
  refine min_intTup hh hl hsz fun v h' tk hv hk => ?_
  obtain ⟨t, rfl⟩ := intItems_at hv
  obtain ⟨h1, h2⟩ := argBest_lt (numAt xs) (xs.size - 1)
  refine h h' tk _ t hk ?_ fun a ha => ?_
  · rw [numAt_eq]; exact PySem.getD_mem (by rw [List.length_map, Array.length_toList]; omega)
  · obtain ⟨j, hj, rfl⟩ := mem_getD ha
    rw [List.length_map, Array.length_toList] at hj
    rw [← numAt_eq]; exact h2 j (by omega)
end
def rMaxT (K : PySem.W.Frag) : List V → Hp → VK → Prop := fun vs H Q => ∃ (a : Addr) (ns : List Int), vs = [V.ref a] ∧ SqT K H a (ns.map V.int) ∧ 0 < ns.length ∧ ∀ m, m ∈ ns → (∀ y, y ∈ ns → y ≤ m) → Q (.int m) H
def rMinT (K : PySem.W.Frag) : List V → Hp → VK → Prop := fun vs H Q => ∃ (a : Addr) (ns : List Int), vs = [V.ref a] ∧ SqT K H a (ns.map V.int) ∧ 0 < ns.length ∧ ∀ m, m ∈ ns → (∀ y, y ∈ ns → m ≤ y) → Q (.int m) H
section
variable {X : Cx}
theorem cr_maxT (hc : X.calm = true) : CallR X (.builtin "max") (rMaxT X.K) := by
  intro pins s σ H vs us Q I r h
  obtain ⟨a, ns, rfl, hs, hne, q⟩ := h
  obtain ⟨its, rv, hl, _⟩ := I.tuple hs
  rw [Vals.ref1 r]
  exact max_rawT (I.ok.hd hc) hl rv.ints hne fun h' tk m t' hk h1 h2 => ⟨.int _, H, I.kept hk, ⟨_, rfl⟩, q m h1 h2⟩
theorem cr_minT (hc : X.calm = true) : CallR X (.builtin "min") (rMinT X.K) := by
  intro pins s σ H vs us Q I r h
  obtain ⟨a, ns, rfl, hs, hne, q⟩ := h
  obtain ⟨its, rv, hl, _⟩ := I.tuple hs
  rw [Vals.ref1 r]
  exact min_rawT (I.ok.hd hc) hl rv.ints hne fun h' tk m t' hk h1 h2 => ⟨.int _, H, I.kept hk, ⟨_, rfl⟩, q m h1 h2⟩
end
end T
set_option Elab.async false
set_option linter.all false
set_option maxRecDepth 100000
set_option maxHeartbeats 4000000
/-! TLf: built-ins, methods, isinstance, defs. -/
namespace T
open PySem PySem.Spec L2
open PyProof.Rows hiding St
/-! ### shapes -/
def noStar : Expr → Bool
  | .Starred _ _ => false
  | _ => true
theorem star_cons {e : Expr} {es : List Expr} {env : PySem.Env} (h : noStar e = true) : starEach (e :: es) env = (false, eval e env) :: starEach es env := by
  cases e <;> first | rfl | (simp [noStar] at h)
def noSl : Expr → Bool
  | .Slice _ _ _ _ => false
  | _ => true
theorem plainIx {e : Expr} (h : noSl e = true) : PlainIx e := fun o i => by
  cases e <;> first | rfl | (simp [noSl] at h)
def noSet : Expr → Bool
  | .Set _ _ _ => false
  | _ => true
theorem behind {op : CmpOp} {e : Expr} (h : noSet e = true) : behindInMarks op e = false := by
  cases e <;> first | rfl | (simp [noSet] at h)
theorem folded {e : Expr} {env : PySem.Env} (h : noSet e = true) : ∀ x, foldedSetIterable e env x = pure x := fun x => by
  cases e <;> first | rfl | (simp [noSet] at h)
def noLc : Expr → Bool
  | .ListComp _ _ _ _ => false
  | .SetComp _ _ _ _ => false
  | .DictComp _ _ _ _ _ => false
  | _ => true
theorem swaps {e : Expr} {t : Option Expr} {l : Nat} {env : PySem.Env} (h : noLc e = true) : swapsWith e t l env = pure false := by
  cases e <;> first | rfl | (simp [noLc] at h)
def noCall : Expr → Bool
  | .Call (.Name _ _) [] [] _ => false
  | _ => true
theorem attrBase {e : Expr} {f : Str} {env : PySem.Env} (h : noCall e = true) : attributeBase e f env (eval e env) = eval e env := by
  cases e with
  | Call g a k p => cases g <;> cases a <;> cases k <;> first | rfl | (simp [noCall] at h)
  | _ => rfl
/-- a test that is no and, or, not, comparison, conditional -/
def plainT : Expr → Bool
  | .UnaryOp _ _ _ => false
  | .BoolOp _ _ _ => false
  | .IfExp _ _ _ _ => false
  | .Compare _ _ _ _ => false
  | _ => true
theorem plainTest {e : Expr} {env : PySem.Env} (h : plainT e = true) : ∀ whole, isTrue e env whole = (do let v ← whole; standAt e.pos; holding [v] (truthy v)) := fun whole => by
  cases e <;> first | rfl | (simp [plainT] at h)
def noStars (es : List Expr) : Bool := es.all noStar
theorem star_all {es : List Expr} {env : PySem.Env} (h : noStars es = true) : starEach es env = es.map fun e => (false, eval e env) := by
  induction es with
  | nil => rfl
  | cons e es ih =>
    unfold noStars at h
    rw [List.all_cons, Bool.and_eq_true] at h
    rw [star_cons h.1, ih h.2]; rfl
theorem back_no {es : List Expr} {env : PySem.Env} {pos : Pos} (h : noStars es = true) : (backTo pos (starEach es env)).any (·.1) = false := by
  rw [star_all h]
  unfold backTo
  induction es with
  | nil => rfl
  | cons e es ih =>
    unfold noStars at h
    rw [List.all_cons, Bool.and_eq_true] at h
    have := ih h.2
    simpa using this
theorem back_all {es : List Expr} {env : PySem.Env} {pos : Pos} (h : noStars es = true) : (backTo pos (starEach es env)).all (fun x => !x.1) = true := by
  rw [star_all h]
  unfold backTo
  simp
theorem few {es : List Expr} {env : PySem.Env} {pos : Pos} (h : noStars es = true) (hl : es.length < 30) : ((backTo pos (starEach es env)).all (fun x => !x.1) && (backToKw pos (keywordEach [] env)).all (fun x => x.1.isSome)
      && decide (es.length + ([] : List Keyword).length + (if ([] : List Keyword).isEmpty then 0 else 1) < 30)) = true := by
  rw [back_all h]
  simp [keywordEach, backToKw]
  exact hl
/-! ### built-ins -/
inductive Ty where
  | non | bl | int | str | tup | lst | dic
def Ty.name : Ty → String
  | .non => "NoneType" | .bl => "bool" | .int => "int" | .str => "str" | .tup => "tuple" | .lst => "list" | .dic => "dict"
def isT : Ty → Ty → Bool
  | .non, .non => true | .bl, .bl => true | .bl, .int => true | .int, .int => true | .str, .str => true | .tup, .tup => true | .lst, .lst => true | .dic, .dic => true
  | _, _ => false
def tyD (s : S) : D → Option Ty
  | .non => some .non | .bl _ => some .bl | .int _ => some .int | .str _ => some .str | .tup _ => some .tup | .rol _ => some .lst
  | .ref n => match s[n]? with
    | some (.lst _) => some .lst
    | some (.dic _) => some .dic
    | some (.dit _) => some .dic
    | _ => none
def isi (T : Ty) (d : D) (s : S) : Option (D × S) := match tyD s d with
  | some t => some (.bl (isT t T), s)
  | none => none
theorem kit_all (t T : Ty) (h : T = .non → False) : kitB t.name T.name = some (isT t T) := by
  cases t <;> cases T <;> first | exact (h rfl).elim | decide +kernel
def intsOf : List D → Option (List Int)
  | [] => some []
  | .int i :: r => (intsOf r).map (i :: ·)
  | _ => none
def blsOf : List D → Option (List Bool)
  | [] => some []
  | .bl i :: r => (blsOf r).map (i :: ·)
  | _ => none
def strsOf : List D → Option (List Str)
  | [] => some []
  | .str i :: r => (strsOf r).map (i :: ·)
  | _ => none
section
variable {K : PySem.W.Frag} {m : List Addr} {H : Hp}
theorem ints_of : ∀ {vs : List V} {ds : List D} {ns : List Int}, RDs K m H vs ds → intsOf ds = some ns → vs = ns.map V.int
  | _, _, _, .nil, h => by simp [intsOf] at h; subst h; rfl
  | _, _, ns, .cons (d := d) a r, h => by
    cases a with
    | int i =>
      simp only [intsOf, Option.map_eq_some_iff] at h
      obtain ⟨w, h1, h2⟩ := h
      subst h2
      rw [ints_of r h1]; rfl
    | _ => simp [intsOf] at h
theorem bls_of : ∀ {vs : List V} {ds : List D} {ns : List Bool}, RDs K m H vs ds → blsOf ds = some ns → vs = ns.map V.bl
  | _, _, _, .nil, h => by simp [blsOf] at h; subst h; rfl
  | _, _, ns, .cons (d := d) a r, h => by
    cases a with
    | bl i =>
      simp only [blsOf, Option.map_eq_some_iff] at h
      obtain ⟨w, h1, h2⟩ := h
      subst h2
      rw [bls_of r h1]; rfl
    | _ => simp [blsOf] at h
theorem strs_of : ∀ {vs : List V} {ds : List D} {ns : List Str}, RDs K m H vs ds → strsOf ds = some ns → vs = ns.map V.str
  | _, _, _, .nil, h => by simp [strsOf] at h; subst h; rfl
  | _, _, ns, .cons (d := d) a r, h => by
    cases a with
    | str i =>
      simp only [strsOf, Option.map_eq_some_iff] at h
      obtain ⟨w, h1, h2⟩ := h
      subst h2
      rw [strs_of r h1]; rfl
    | _ => simp [strsOf] at h
theorem rds_ints : ∀ (ns : List Int), RDs K m H (ns.map V.int) (ns.map D.int)
  | [] => .nil
  | i :: ns => .cons (.int i) (rds_ints ns)
/-- what is a sequence lies as one -/
theorem RD.seq {ca : Nat → Addr} {s : S} {v : V} {d : D} {ds : List D} (hr : HR K ca m s H) (r : RD K m H v d) (h : seqD s d = some ds) : ∃ a vs, v = .ref a ∧ (SqL K H a vs ∨ SqT K H a vs) ∧ RDs K m H vs ds := by
  cases r with
  | tup q rs => cases h; exact ⟨_, _, rfl, .inr q, rs⟩
  | rol q rs => cases h; exact ⟨_, _, rfl, .inl q.sql, rs⟩
  | ref hn => obtain ⟨vs, e1, rs⟩ := hr.lst hn h; exact ⟨_, _, rfl, .inl (SqL.of e1), rs⟩
  | _ => simp [seqD] at h
end
inductive Blt where
  | len | list | tuple | max2 | min2 | ord | int | str | sum | all | any | max1 | min1 | sorted | min3
def Blt.name : Blt → Str
  | .len => "len" | .list => "list" | .tuple => "tuple" | .max2 => "max" | .min2 => "min" | .ord => "ord" | .int => "int" | .str => "str" | .sum => "sum" | .all => "all" | .any => "any" | .max1 => "max" | .min1 => "min" | .sorted => "sorted" | .min3 => "min"
def sumI : List Int → Int
  | [] => 0
  | i :: r => i + sumI r
/-- the greatest, the least of some -/
def maxI : Int → List Int → Int
  | a, [] => a
  | a, b :: r => maxI (if b > a then b else a) r
def minI : Int → List Int → Int
  | a, [] => a
  | a, b :: r => minI (if b < a then b else a) r
def blt : Blt → List D → S → Option (D × S)
  | .len, [.str z], s => if z.length ≤ 1000000 then some (.int z.length, s) else none
  | .len, [d], s => match seqD s d with
    | some ds => some (.int ds.length, s)
    | none => match d with
      | .ref n => match s[n]? with
        | some (.dic kvs) => some (.int kvs.length, s)
        | _ => none
      | _ => none
  | .list, [d], s => match seqD s d with
    | some ds => some (.ref s.length, s ++ [.lst ds])
    | none => match d with
      | .ref n => match s[n]? with
        | some (.dic kvs) => some (.ref s.length, s ++ [.lst (kvs.map fun p => keyR p.1)])
        | _ => none
      | _ => none
  | .tuple, [d], s => match seqD s d with
    | some ds => some (.tup ds, s)
    | none => none
  | .max2, [.int i, .int j], s => some (.int (if j > i then j else i), s)
  | .min2, [.int i, .int j], s => some (.int (if j < i then j else i), s)
  | .min3, [.int i, .int j, .int k], s => some (.int (if k < (if j < i then j else i) then k else (if j < i then j else i)), s)
  | .ord, [.str z], s => match z.cps.toList with
    | [c] => some (.int c, s)
    | _ => none
  | .int, [.int i], s => some (.int i, s)
  | .int, [.bl b], s => some (.int (if b then 1 else 0), s)
  | .str, [.int i], s => if i.natAbs < 2 ^ 1000 then some (.str (toString i), s) else none
  | .sum, [d], s => match seqD s d with
    | some ds => match d with
      | .tup _ => none
      | _ => match intsOf ds with
        | some ns => some (.int (sumI ns), s)
        | none => none
    | none => none
  | .all, [d], s => match d with
    | .tup _ => none
    | _ => match seqD s d with
      | some ds => match blsOf ds with
        | some bs => some (.bl (bs.all id), s)
        | none => none
      | none => none
  | .any, [d], s => match d with
    | .tup _ => none
    | _ => match seqD s d with
      | some ds => match blsOf ds with
        | some bs => some (.bl (bs.any id), s)
        | none => none
      | none => none
  | .max1, [d], s => match d with
    | .tup ds => match intsOf ds with
      | some (n :: ns) => some (.int (maxI n ns), s)
      | _ => none
    | _ => match seqD s d with
      | some ds => match intsOf ds with
        | some (n :: ns) => some (.int (maxI n ns), s)
        | _ => none
      | none => none
  | .min1, [d], s => match d with
    | .tup ds => match intsOf ds with
      | some (n :: ns) => some (.int (minI n ns), s)
      | _ => none
    | _ => match seqD s d with
      | some ds => match intsOf ds with
        | some (n :: ns) => some (.int (minI n ns), s)
        | _ => none
      | none => none
  | .sorted, [d], s => match d with
    | .tup _ => none
    | _ => match seqD s d with
      | some ds => if sortOk ds then some (.ref s.length, s ++ [.lst (sortD ds)]) else none
      | none => match d with
        | .ref n => match s[n]? with
          | some (.dic kvs) => if (allInt (kvs.map fun p => keyR p.1) || allStr (kvs.map fun p => keyR p.1)) = true then some (.ref s.length, s ++ [.lst (sortD (kvs.map fun p => keyR p.1))]) else none
          | _ => none
        | _ => none
  | _, _, _ => none
section
variable {X : Cx} {ad : Ad} {W : WX}
theorem vs1 {K : PySem.W.Frag} {m : List Addr} {H : Hp} {vs : List V} {d : D} (r : RDs K m H vs [d]) : ∃ v, vs = [v] ∧ RD K m H v d := by
  cases r with
  | cons a r => cases r; exact ⟨_, rfl, a⟩
theorem vs2 {K : PySem.W.Frag} {m : List Addr} {H : Hp} {vs : List V} {d e : D} (r : RDs K m H vs [d, e]) : ∃ v w, vs = [v, w] ∧ RD K m H v d ∧ RD K m H w e := by
  cases r with
  | cons a r => cases r with
    | cons b r => cases r; exact ⟨_, _, rfl, a, b⟩
theorem maxI_spec : ∀ (n : Int) (ns : List Int), maxI n ns ∈ n :: ns ∧ ∀ y ∈ n :: ns, y ≤ maxI n ns
  | n, [] => ⟨by simp [maxI], fun y hy => by simp at hy; simp [maxI, hy]⟩
  | n, a :: r => by
    obtain ⟨h1, h2⟩ := maxI_spec (if a > n then a else n) r
    unfold maxI
    by_cases c : a > n
    · rw [if_pos c] at h1 h2 ⊢
      refine ⟨List.mem_cons_of_mem _ h1, fun y hy => ?_⟩
      rcases List.mem_cons.mp hy with rfl | hy
      · have := h2 a List.mem_cons_self; omega
      · exact h2 y hy
    · rw [if_neg c] at h1 h2 ⊢
      refine ⟨?_, fun y hy => ?_⟩
      · rcases List.mem_cons.mp h1 with e | e
        · rw [e]; exact List.mem_cons_self
        · exact List.mem_cons_of_mem _ (List.mem_cons_of_mem _ e)
      · have h3 := h2 n List.mem_cons_self
        rcases List.mem_cons.mp hy with rfl | hy
        · exact h3
        · rcases List.mem_cons.mp hy with rfl | hy
          · omega
          · exact h2 y (List.mem_cons_of_mem _ hy)
theorem minI_spec : ∀ (n : Int) (ns : List Int), minI n ns ∈ n :: ns ∧ ∀ y ∈ n :: ns, minI n ns ≤ y
  | n, [] => ⟨by simp [minI], fun y hy => by simp at hy; simp [minI, hy]⟩
  | n, a :: r => by
    obtain ⟨h1, h2⟩ := minI_spec (if a < n then a else n) r
    unfold minI
    by_cases c : a < n
    · rw [if_pos c] at h1 h2 ⊢
      refine ⟨List.mem_cons_of_mem _ h1, fun y hy => ?_⟩
      rcases List.mem_cons.mp hy with rfl | hy
      · have := h2 a List.mem_cons_self; omega
      · exact h2 y hy
    · rw [if_neg c] at h1 h2 ⊢
      refine ⟨?_, fun y hy => ?_⟩
      · rcases List.mem_cons.mp h1 with e | e
        · rw [e]; exact List.mem_cons_self
        · exact List.mem_cons_of_mem _ (List.mem_cons_of_mem _ e)
      · have h3 := h2 n List.mem_cons_self
        rcases List.mem_cons.mp hy with rfl | hy
        · exact h3
        · rcases List.mem_cons.mp hy with rfl | hy
          · omega
          · exact h2 y (List.mem_cons_of_mem _ hy)
theorem sumI_eq : ∀ ns : List Int, sumI ns = ns.sum
  | [] => rfl
  | n :: ns => by rw [sumI, sumI_eq ns, List.sum_cons]
/-- a value that is a list of ints, of bools -/
theorem RD.lstI {K : PySem.W.Frag} {ca : Nat → Addr} {m : List Addr} {s : S} {H : Hp} {v : V} {d : D} {ds : List D} (hr : HR K ca m s H) (r : RD K m H v d) (h : seqD s d = some ds) (hn : ∀ es, d ≠ .tup es) : ∃ a vs, v = .ref a ∧ SqL K H a vs ∧ RDs K m H vs ds := by
  cases r with
  | tup q rs => exact (hn _ rfl).elim
  | rol q rs => cases h; exact ⟨_, _, rfl, q.sql, rs⟩
  | ref hm => obtain ⟨vs, e1, rs⟩ := hr.lst hm h; exact ⟨_, _, rfl, SqL.of e1, rs⟩
  | _ => simp [seqD] at h
theorem c_len : CallR X (.builtin "len") (LCR X.K ad (blt .len)) := by
  intro pins st σ H xs us Q I rv ⟨m, s, ds, hr, r, h⟩
  unfold blt at h
  split at h <;> first | contradiction | skip
  · rename_i z s
    obtain ⟨v, rfl, a⟩ := vs1 r
    cases a
    split at h
    · rename_i hl
      exact call_len pins st σ H _ us Q I rv ⟨.str z, z.length, rfl, ⟨lim hl, rfl⟩, h m H _ .refl hr (.int _)⟩
    · exact h.elim
  · rename_i d s hd _
    obtain ⟨v, rfl, a⟩ := vs1 r
    split at h
    · rename_i es he
      obtain ⟨p, vs, rfl, hq, rs⟩ := a.seq hr he
      have q := h m H _ .refl hr (.int _)
      rw [← rs.length] at q
      exact call_len_seq pins st σ H _ us Q I rv ⟨p, vs, rfl, hq, q⟩
    · split at h
      · rename_i n _
        split at h
        · rename_i kvs hk
          cases a with
          | ref hn =>
            obtain ⟨kws, e, rk⟩ := hr.at_ _ _ _ hn hk
            have q := h m H _ .refl hr (.int _)
            rw [← Paired.length rk] at q
            exact call_lenD pins st σ H _ us Q I rv ⟨_, kws, rfl, e, q⟩
        · exact h.elim
      · exact h.elim
  all_goals exact h.elim
theorem keys_rd {K : PySem.W.Frag} {m : List Addr} {H : Hp} {kws : List (Key × V)} {kvs : List (Key × D)} (r : RKs K m H kws kvs) : RDs K m H (kws.map fun kv => kV kv.1) (kvs.map fun p => keyR p.1) := by
  induction r with
  | nil => exact .nil
  | @cons a b _ _ h _ ih =>
    refine .cons ?_ ih
    show RD K m H (kV a.1) (keyR b.1)
    rw [h.1]
    cases b.1 with
    | inl i => exact .int i
    | inr x => exact .str x
theorem c_list (hc : X.calm = true) : CallR X (.type "list") (LCR X.K ad (blt .list)) := by
  intro pins st σ H xs us Q I rv ⟨m, s, ds, hr, r, h⟩
  unfold blt at h
  split at h <;> first | contradiction | skip
  · rename_i d s _
    obtain ⟨v, rfl, a⟩ := vs1 r
    split at h
    · rename_i es he
      obtain ⟨p, vs, rfl, hq, rs⟩ := a.seq hr he
      exact call_list_of pins st σ H _ us Q I rv ⟨p, vs, rfl, hq, new_lst hr rs h⟩
    · split at h
      · rename_i n _
        split at h
        · rename_i kvs hk
          cases a with
          | ref hn =>
            obtain ⟨kws, e, rk⟩ := hr.at_ _ _ _ hn hk
            exact call_list_dK hc pins st σ H _ us Q I rv ⟨_, kws, rfl, e, new_lst hr (keys_rd rk) h⟩
        · exact h.elim
      · exact h.elim
  all_goals exact h.elim
theorem c_tuple : CallR X (.type "tuple") (LCR X.K ad (blt .tuple)) := by
  intro pins st σ H xs us Q I rv ⟨m, s, ds, hr, r, h⟩
  unfold blt at h
  split at h <;> first | contradiction | skip
  · rename_i d s _
    obtain ⟨v, rfl, a⟩ := vs1 r
    split at h
    · rename_i es he
      cases a with
      | tup q rs => cases he; exact call_tuple_of pins st σ H _ us Q I rv ⟨_, _, rfl, .inr ⟨q, h m H _ .refl hr (.tup q rs)⟩⟩
      | rol q rs => cases he; exact call_tuple_of pins st σ H _ us Q I rv ⟨_, _, rfl, .inl ⟨q.sql, new_tup hr rs h⟩⟩
      | ref hn =>
        obtain ⟨vs, e1, rs⟩ := hr.lst hn he
        exact call_tuple_of pins st σ H _ us Q I rv ⟨_, _, rfl, .inl ⟨SqL.of e1, new_tup hr rs h⟩⟩
      | _ => simp [seqD] at he
    · exact h.elim
  all_goals exact h.elim
theorem c_max2 (hc : X.calm = true) : CallR X (.builtin "max") (LCR X.K ad (blt .max2)) := by
  intro pins st σ H xs us Q I rv ⟨m, s, ds, hr, r, h⟩
  unfold blt at h
  split at h <;> first | contradiction | skip
  · obtain ⟨v, w, rfl, a, b⟩ := vs2 r
    cases a; cases b
    exact call_max2 hc pins st σ H _ us Q I rv ⟨_, _, rfl, h m H _ .refl hr (.int _)⟩
  all_goals exact h.elim
theorem c_min2 (hc : X.calm = true) : CallR X (.builtin "min") (LCR X.K ad (blt .min2)) := by
  intro pins st σ H xs us Q I rv ⟨m, s, ds, hr, r, h⟩
  unfold blt at h
  split at h <;> first | contradiction | skip
  · obtain ⟨v, w, rfl, a, b⟩ := vs2 r
    cases a; cases b
    exact call_min2 hc pins st σ H _ us Q I rv ⟨_, _, rfl, h m H _ .refl hr (.int _)⟩
  all_goals exact h.elim
theorem nu_min3 (i j k : Int) : nuMin3 (.int i) (.int j) (.int k) = some (.int (if k < (if j < i then j else i) then k else (if j < i then j else i))) := by
  unfold nuMin3 nuMin2 nuLt nuCB
  by_cases h1 : j < i
  · by_cases h2 : k < j <;> simp [h1, h2]
  · by_cases h2 : k < i <;> simp [h1, h2]
theorem c_min3 (hc : X.calm = true) : CallR X (.builtin "min") (LCR X.K ad (blt .min3)) := by
  intro pins st σ H xs us Q I rv ⟨m, s, ds, hr, r, h⟩
  unfold blt at h
  split at h <;> first | contradiction | skip
  · cases r with
    | cons a r => cases r with
      | cons b r => cases r with
        | cons c r =>
          cases r
          cases a; cases b; cases c
          exact call_min3Nu hc pins st σ H _ us Q I rv ⟨_, _, _, _, rfl, nu_min3 _ _ _, h m H _ .refl hr (.int _)⟩
  all_goals exact h.elim
theorem c_ord : CallR X (.builtin "ord") (LCR X.K ad (blt .ord)) := by
  intro pins st σ H xs us Q I rv ⟨m, s, ds, hr, r, h⟩
  unfold blt at h
  split at h <;> first | contradiction | skip
  · obtain ⟨v, rfl, a⟩ := vs1 r
    cases a
    split at h
    · rename_i c hc
      have := one_sign hc
      subst this
      exact call_ord pins st σ H _ us Q I rv ⟨_, rfl, rfl, h m H _ .refl hr (.int _)⟩
    · exact h.elim
  all_goals exact h.elim
theorem c_int : CallR X (.type "int") (LCR X.K ad (blt .int)) := by
  intro pins st σ H xs us Q I rv ⟨m, s, ds, hr, r, h⟩
  unfold blt at h
  split at h <;> first | contradiction | skip
  · obtain ⟨v, rfl, a⟩ := vs1 r
    cases a
    exact call_int1 pins st σ H _ us Q I rv (.inl ⟨_, rfl, h m H _ .refl hr (.int _)⟩)
  · obtain ⟨v, rfl, a⟩ := vs1 r
    cases a
    exact call_int1 pins st σ H _ us Q I rv (.inr ⟨_, rfl, h m H _ .refl hr (.int _)⟩)
  all_goals exact h.elim
theorem c_str : CallR X (.type "str") (LCR X.K ad (blt .str)) := by
  intro pins st σ H xs us Q I rv ⟨m, s, ds, hr, r, h⟩
  unfold blt at h
  split at h <;> first | contradiction | skip
  · obtain ⟨v, rfl, a⟩ := vs1 r
    cases a
    split at h
    · rename_i hl
      have := PySem.Flt.log2_lt_of (by decide) hl
      exact call_str_int pins st σ H _ us Q I rv ⟨_, rfl, by omega, h m H _ .refl hr (.str _)⟩
    · exact h.elim
  all_goals exact h.elim
theorem c_sum (hc : X.calm = true) : CallR X (.builtin "sum") (LCR X.K ad (blt .sum)) := by
  intro pins st σ H xs us Q I rv ⟨m, s, ds, hr, r, h⟩
  unfold blt at h
  split at h <;> first | contradiction | skip
  · obtain ⟨v, rfl, a⟩ := vs1 r
    split at h
    · rename_i es he
      split at h
      · exact h.elim
      · rename_i hn
        split at h
        · rename_i ns hns
          obtain ⟨p, vs, rfl, hq, rs⟩ := a.lstI hr he (fun es e => hn es e)
          have := ints_of rs hns
          subst this
          exact cr_sum hc pins st σ H _ us Q I rv ⟨p, ns, rfl, hq, by rw [← sumI_eq]; exact h m H _ .refl hr (.int _)⟩
        · exact h.elim
    · exact h.elim
  all_goals exact h.elim
theorem c_all (hc : X.calm = true) : CallR X (.builtin "all") (LCR X.K ad (blt .all)) := by
  intro pins st σ H xs us Q I rv ⟨m, s, ds, hr, r, h⟩
  unfold blt at h
  split at h <;> first | contradiction | skip
  · obtain ⟨v, rfl, a⟩ := vs1 r
    split at h
    · exact h.elim
    · rename_i hn
      split at h
      · rename_i es he
        split at h
        · rename_i ns hns
          obtain ⟨p, vs, rfl, hq, rs⟩ := a.lstI hr he (fun es e => hn es e)
          have := bls_of rs hns
          subst this
          exact cr_all hc pins st σ H _ us Q I rv ⟨p, ns, rfl, hq, h m H _ .refl hr (.bl _)⟩
        · exact h.elim
      · exact h.elim
  all_goals exact h.elim
theorem c_any (hc : X.calm = true) : CallR X (.builtin "any") (LCR X.K ad (blt .any)) := by
  intro pins st σ H xs us Q I rv ⟨m, s, ds, hr, r, h⟩
  unfold blt at h
  split at h <;> first | contradiction | skip
  · obtain ⟨v, rfl, a⟩ := vs1 r
    split at h
    · exact h.elim
    · rename_i hn
      split at h
      · rename_i es he
        split at h
        · rename_i ns hns
          obtain ⟨p, vs, rfl, hq, rs⟩ := a.lstI hr he (fun es e => hn es e)
          have := bls_of rs hns
          subst this
          exact cr_any hc pins st σ H _ us Q I rv ⟨p, ns, rfl, hq, h m H _ .refl hr (.bl _)⟩
        · exact h.elim
      · exact h.elim
  all_goals exact h.elim
theorem c_max1 (hc : X.calm = true) : CallR X (.builtin "max") (LCR X.K ad (blt .max1)) := by
  intro pins st σ H xs us Q I rv ⟨m, s, ds, hr, r, h⟩
  unfold blt at h
  split at h <;> first | contradiction | skip
  · obtain ⟨v, rfl, a⟩ := vs1 r
    split at h
    · rename_i es
      split at h
      · rename_i n ns hns
        cases a with
        | tup hq rs =>
          have := ints_of rs hns
          subst this
          obtain ⟨g1, g2⟩ := maxI_spec n ns
          refine cr_maxT hc pins st σ H _ us Q I rv ⟨_, n :: ns, rfl, hq, by simp, fun k hk1 hk2 => ?_⟩
          have e : k = maxI n ns := by
            have a1 := hk2 _ g1
            have a2 := g2 _ hk1
            omega
          rw [e]
          exact h m H _ .refl hr (.int _)
      · exact h.elim
    · rename_i hn
      split at h
      · rename_i es he
        split at h
        · rename_i n ns hns
          obtain ⟨p, vs, rfl, hq, rs⟩ := a.lstI hr he (fun es e => hn es e)
          have := ints_of rs hns
          subst this
          obtain ⟨g1, g2⟩ := maxI_spec n ns
          refine cr_max hc pins st σ H _ us Q I rv ⟨p, n :: ns, rfl, hq, by simp, fun k hk1 hk2 => ?_⟩
          have e : k = maxI n ns := by
            have a1 := hk2 _ g1
            have a2 := g2 _ hk1
            omega
          rw [e]
          exact h m H _ .refl hr (.int _)
        · exact h.elim
      · exact h.elim
  all_goals exact h.elim
theorem c_min1 (hc : X.calm = true) : CallR X (.builtin "min") (LCR X.K ad (blt .min1)) := by
  intro pins st σ H xs us Q I rv ⟨m, s, ds, hr, r, h⟩
  unfold blt at h
  split at h <;> first | contradiction | skip
  · obtain ⟨v, rfl, a⟩ := vs1 r
    split at h
    · rename_i es
      split at h
      · rename_i n ns hns
        cases a with
        | tup hq rs =>
          have := ints_of rs hns
          subst this
          obtain ⟨g1, g2⟩ := minI_spec n ns
          refine cr_minT hc pins st σ H _ us Q I rv ⟨_, n :: ns, rfl, hq, by simp, fun k hk1 hk2 => ?_⟩
          have e : k = minI n ns := by
            have a1 := hk2 _ g1
            have a2 := g2 _ hk1
            omega
          rw [e]
          exact h m H _ .refl hr (.int _)
      · exact h.elim
    · rename_i hn
      split at h
      · rename_i es he
        split at h
        · rename_i n ns hns
          obtain ⟨p, vs, rfl, hq, rs⟩ := a.lstI hr he (fun es e => hn es e)
          have := ints_of rs hns
          subst this
          obtain ⟨g1, g2⟩ := minI_spec n ns
          refine cr_min hc pins st σ H _ us Q I rv ⟨p, n :: ns, rfl, hq, by simp, fun k hk1 hk2 => ?_⟩
          have e : k = minI n ns := by
            have a1 := hk2 _ g1
            have a2 := g2 _ hk1
            omega
          rw [e]
          exact h m H _ .refl hr (.int _)
        · exact h.elim
      · exact h.elim
  all_goals exact h.elim
theorem c_sorted (hc : X.calm = true) : CallR X (.builtin "sorted") (LCR X.K ad (blt .sorted)) := by
  intro pins st σ H xs us Q I rv ⟨m, s, ds, hr, r, h⟩
  unfold blt at h
  split at h <;> first | contradiction | skip
  · obtain ⟨v, rfl, a⟩ := vs1 r
    split at h
    · exact h.elim
    · rename_i hn
      split at h
      · rename_i es he
        split at h
        · rename_i ho
          obtain ⟨p, vs, rfl, hq, rs⟩ := a.lstI hr he (fun es e => hn es e)
          rw [Vals.ref1 rv]
          exact sort_call I hq rs ho fun vs' a' r' hf => new_lst hr r' h a' hf
        · exact h.elim
      · split at h
        · rename_i n _ _
          split at h
          · rename_i kvs hk
            split at h
            · rename_i ho
              cases a with
              | ref hn2 =>
                obtain ⟨kws, e, rk⟩ := hr.at_ _ _ _ hn2 hk
                rw [Vals.ref1 rv]
                exact sort_callD hc I e (keys_rd rk) ho fun vs' a' r' hf => new_lst hr r' h a' hf
            · exact h.elim
          · exact h.elim
        · exact h.elim
  all_goals exact h.elim
/-- b(..) -/
theorem le_blt (b : Blt) {e : Expr} {es : List Expr} {p pos : Pos} {fa : Env → S → R (List D)} (hc : X.calm = true) (hg : Gl X b.name) (hm : X.mg b.name = none) (ha : PA X (e :: es) (LA X.K ad W fa)) (hs : noStars (e :: es) = true) :
    PE X (.Call (.Name b.name p) (e :: es) [] pos) (LE X.K ad W fun env s => (fa env s).bind fun x s1 => R.of (blt b x s1)) := by
  have h1 : noStar e = true ∧ noStars es = true := by
    unfold noStars at hs ⊢
    rw [List.all_cons, Bool.and_eq_true] at hs
    exact hs
  refine le_cb ?_
  cases b
  · exact pe_callB c_len hg hm PySem.boot_len ha (by decide) (by decide) (star_cons h1.1) (back_no h1.2)
  · exact pe_callTy (c_list hc) hg hm (by decide +kernel) ha (by decide) (by decide) (star_cons h1.1) (back_no h1.2)
  · exact pe_callTy c_tuple hg hm (by decide +kernel) ha (by decide) (by decide) (star_cons h1.1) (back_no h1.2)
  · exact pe_callB (c_max2 hc) hg hm (by decide +kernel) ha (by decide) (by decide) (star_cons h1.1) (back_no h1.2)
  · exact pe_callB (c_min2 hc) hg hm (by decide +kernel) ha (by decide) (by decide) (star_cons h1.1) (back_no h1.2)
  · exact pe_callB c_ord hg hm (by decide +kernel) ha (by decide) (by decide) (star_cons h1.1) (back_no h1.2)
  · exact pe_callTy c_int hg hm (by decide +kernel) ha (by decide) (by decide) (star_cons h1.1) (back_no h1.2)
  · exact pe_callTy c_str hg hm (by decide +kernel) ha (by decide) (by decide) (star_cons h1.1) (back_no h1.2)
  · exact pe_callB (c_sum hc) hg hm (by decide +kernel) ha (by decide) (by decide) (star_cons h1.1) (back_no h1.2)
  · exact pe_callB (c_all hc) hg hm (by decide +kernel) ha (by decide) (by decide) (star_cons h1.1) (back_no h1.2)
  · exact pe_callB (c_any hc) hg hm (by decide +kernel) ha (by decide) (by decide) (star_cons h1.1) (back_no h1.2)
  · exact pe_callB (c_max1 hc) hg hm (by decide +kernel) ha (by decide) (by decide) (star_cons h1.1) (back_no h1.2)
  · exact pe_callB (c_min1 hc) hg hm (by decide +kernel) ha (by decide) (by decide) (star_cons h1.1) (back_no h1.2)
  · exact pe_callB (c_sorted hc) hg hm (by decide +kernel) ha (by decide) (by decide) (star_cons h1.1) (back_no h1.2)
  · exact pe_callB (c_min3 hc) hg hm (by decide +kernel) ha (by decide) (by decide) (star_cons h1.1) (back_no h1.2)
end
end T
set_option Elab.async false
set_option linter.all false
set_option maxRecDepth 100000
set_option maxHeartbeats 4000000
/-! TLg: isinstance, methods, calls of defs. -/
namespace T
open PySem PySem.Spec L2
open PyProof.Rows hiding St
section
variable {X : Cx} {ad : Ad} {W : WX} {e o : Expr} {es : List Expr} {p p' pos apos : Pos}
theorem tyx {K : PySem.W.Frag} {ca : Nat → Addr} {m : List Addr} {s : S} {H : Hp} {v : V} {d : D} {t : Ty} (hr : HR K ca m s H) (r : RD K m H v d) (h : tyD s d = some t) : TyX K H v (.type t.name) := by
  cases r with
  | non => cases h; exact .base .non
  | bl b => cases h; exact .base (.bl b)
  | int b => cases h; exact .base (.int b)
  | str b => cases h; exact .base (.str b)
  | tup q rs =>
    cases h
    rcases q with (q | ⟨o, q⟩) | ⟨o, its, n, hk, hc, _⟩
    · exact .base (.tup q)
    · exact .fTuple q
    · exact .kTuple hk hc
  | rol q rs =>
    cases h
    rcases q with ⟨o, q⟩ | ⟨o, its, n, hk, hc, _⟩
    · exact .base (.frz q)
    · exact .kList hk hc
  | ref hn =>
    obtain ⟨o, ho, r⟩ := hr.some_at hn
    simp only [tyD, ho] at h
    cases o with
    | lst ds => cases h; obtain ⟨_, e, _⟩ := r; exact .base (.lst e)
    | dic ds => cases h; obtain ⟨_, e, _⟩ := r; exact .base (.dK e)
    | dit ds => cases h; obtain ⟨_, e, _⟩ := r; exact .base (.dT e)
    | ins c fs => cases h
    | exo c => cases h
    | fzk ds => cases h
    | fzt ds => cases h
def Ty.ok : Ty → Bool
  | .non => false
  | _ => true
/-- isinstance(e, T) -/
theorem le_isi (T : Ty) {fa : Env → S → R D} (ht : T.ok = true) (hg : Gl X "isinstance") (hm : X.mg "isinstance" = none) (hg2 : Gl X (Str.ofString T.name)) (hm2 : X.mg (Str.ofString T.name) = none) (ha : PE X e (LE X.K ad W fa)) (hs : noStar e = true) :
    PE X (.Call (.Name "isinstance" p) [e, .Name (Str.ofString T.name) p'] [] pos) (LE X.K ad W fun env s => (fa env s).bind fun x s1 => R.of (isi T x s1)) := by
  have hT : PE X (.Name (Str.ofString T.name) p') (tC (.ty T.name)) := by
    have hb : bootBuiltins (Str.ofString T.name) = some (.type T.name) := by cases T <;> first | (exact (Bool.false_ne_true ht).elim) | decide +kernel
    have h1 : Str.ofString T.name ≠ "__name__" := by cases T <;> decide
    have h2 : (Str.ofString T.name == ("__debug__" : Str)) = false := by cases T <;> decide
    exact pe_bltn (v := .ty T.name) hg2 hm2 hb rfl h1 h2
  have hq := pe_callB (p := p) (pos := pos) call_isi hg hm (by decide +kernel) (pa_cons ha (pa_cons hT pa_nil (by rfl)) (star_cons hs)) (by decide) (by decide) (star_cons hs) (by rfl)
  refine hq.imp fun σ H Q ⟨m, s, env, hr, er, h⟩ => ⟨m, s, env, hr, er, h.bind fun x s1 m1 H1 v _ x1 hr1 rv h1 => ?_⟩
  unfold isi at h1
  split at h1
  · rename_i t htd
    have hk := kit_all t T (fun e => by rw [e] at ht; cases ht)
    exact ⟨v, .ty T.name, .type t.name, .type T.name, isT t T, rfl, .ty _, tyx hr1 rv htd, kit_ty hk, h1 m1 H1 _ .refl hr1 (.bl _)⟩
  · exact h1.elim
/-! ### methods -/
inductive Mth where
  | append | extend | pop0 | popAt | reverse | insert | clear | join | upper | index | dget | dpop | dsetd | split | sidx
def Mth.ty : Mth → Ty
  | .join => .str | .upper => .str | .dget => .dic | .dpop => .dic | .dsetd => .dic | .split => .str | .sidx => .str | _ => .lst
def Mth.name : Mth → Str
  | .append => "append" | .extend => "extend" | .pop0 => "pop" | .popAt => "pop" | .reverse => "reverse" | .insert => "insert" | .clear => "clear" | .join => "join" | .upper => "upper" | .index => "index" | .dget => "get" | .dpop => "pop" | .dsetd => "setdefault" | .split => "split" | .sidx => "index"
def Mth.no : Mth → Bool
  | .pop0 => true | .reverse => true | .clear => true | .upper => true | _ => false
def rcv (t : Ty) (s : S) (d : D) : Bool := match t, tyD s d with
  | .str, some .str => true
  | .lst, some .lst => true
  | .dic, some .dic => true
  | _, _ => false
/-- the first place of an equal one -/
def posL (f : D → D → Option Bool) (d : D) (xs : List D) : Nat := xs.findIdx fun y => f y d == some true
theorem inL_some {f : D → D → Option Bool} {d : D} : ∀ {xs : List D} {k : Bool}, inL f d xs = some k → (∀ y ∈ xs, ∃ b, f y d = some b) ∧ (k = true → ∃ y ∈ xs, f y d = some true)
  | [], k, h => by simp [inL] at h; subst h; exact ⟨fun y hy => (by cases hy), fun h => by cases h⟩
  | y :: r, k, h => by
    unfold inL at h
    split at h
    · rename_i a b ha hb
      cases h
      obtain ⟨i1, i2⟩ := inL_some hb
      refine ⟨fun z hz => ?_, fun hk => ?_⟩
      · rcases List.mem_cons.mp hz with rfl | hz
        · exact ⟨_, ha⟩
        · exact i1 z hz
      · cases a with
        | true => exact ⟨y, by simp, ha⟩
        | false =>
          obtain ⟨z, h1, h2⟩ := i2 (by simpa using hk)
          exact ⟨z, by simp [h1], h2⟩
    · cases h
def mth : Mth → D → List D → S → Option (D × S)
  | .append, .ref n, [d], s => match lsAt s n with
    | some xs => if xs.length < 1000000 then some (.non, s.set n (.lst (xs ++ [d]))) else none
    | none => none
  | .extend, .ref n, [.ref k], s => match lsAt s n, lsAt s k with
    | some xs, some ys => if xs.length + ys.length ≤ 1000000 then some (.non, s.set n (.lst (xs ++ ys))) else none
    | _, _ => none
  | .pop0, .ref n, [], s => match lsAt s n with
    | some xs => match xs[xs.length - 1]? with
      | some d => some (d, s.set n (.lst xs.dropLast))
      | none => none
    | none => none
  | .popAt, .ref n, [.int i], s => match lsAt s n with
    | some xs => if 0 ≤ i ∧ i < xs.length ∧ xs.length ≤ 1000000 then match xs[i.toNat]? with
        | some d => some (d, s.set n (.lst (xs.eraseIdx i.toNat)))
        | none => none else none
    | none => none
  | .reverse, .ref n, [], s => match lsAt s n with
    | some xs => some (.non, s.set n (.lst xs.reverse))
    | none => none
  | .insert, .ref n, [.int i, d], s => match lsAt s n with
    | some xs => if 0 ≤ i ∧ i ≤ 1000000 ∧ xs.length < 1000000 then some (.non, s.set n (.lst (xs.take i.toNat ++ [d] ++ xs.drop i.toNat))) else none
    | none => none
  | .clear, .ref n, [], s => match lsAt s n with
    | some xs => some (.non, s.set n (.lst []))
    | none => none
  | .join, .str a, [d], s => match seqD s d with
    | some ds => match strsOf ds with
      | some ys => if (ys.map (·.length)).sum + ys.length * a.length ≤ 1000000 then some (.str (Txt.join a ys), s) else none
      | none => none
    | none => none
  | .index, .ref n, [d], s => match lsAt s n with
    | some xs => match inL (eqD s 60) d xs with
      | some true => some (.int (posL (eqD s 60) d xs), s)
      | _ => none
    | none => none
  | .upper, .str a, [], s => if a.length ≤ 1000000 then some (.str (Txt.upper a), s) else none
  | .dget, .ref n, [k], s => match dcAt s n, keyOf k with
    | some kvs, some q => some ((valD kvs q).getD .non, s)
    | some _, none => if isNon k then some (.non, s) else none
    | none, _ => none
  | .dget, .ref n, [k, d], s => match dcAt s n, keyOf k with
    | some kvs, some q => some ((valD kvs q).getD d, s)
    | some _, none => if isNon k then some (d, s) else none
    | none, _ => none
  | .dpop, .ref n, [k], s => match dcAt s n, keyOf k with
    | some kvs, some q => match valD kvs q with
      | some d => some (d, s.set n (.dic (dropD kvs q)))
      | none => none
    | _, _ => none
  | .dpop, .ref n, [k, d], s => match dcAt s n, keyOf k with
    | some kvs, some q => match valD kvs q with
      | some z => some (z, s.set n (.dic (dropD kvs q)))
      | none => some (d, s)
    | _, _ => none
  | .dsetd, .ref n, [k, d], s => match dcAt s n, keyOf k with
    | some kvs, some q => if kvs.length < 1000000 then (match valD kvs q with
      | some z => some (z, s)
      | none => some (d, s.set n (.dic (putD kvs q d)))) else none
    | _, _ => none
  | .split, .str a, [.str b], s => if b.length ≠ 0 ∧ a.length ≤ 1000000 then mkL ((Txt.split a b).map D.str) s else none
  | .sidx, .str a, [.str b], s => match PySem.Builtin.Str.occurrences a b 0 a.length 1 with
    | i :: _ => some (.int i, s)
    | [] => none
  | _, _, _, _ => none
theorem rcv_ty {K : PySem.W.Frag} {ca : Nat → Addr} {m : List Addr} {s : S} {H : Hp} {v : V} {d : D} {t : Ty} (hr : HR K ca m s H) (r : RD K m H v d) (h : rcv t s d = true) : tyV K t.name v H := by
  unfold rcv at h
  split at h
  · rename_i e; cases r with
    | str x => rfl
    | ref hn =>
      obtain ⟨o, ho, r⟩ := hr.some_at hn
      simp only [tyD, ho] at e
      cases o <;> cases e
    | _ => cases e
  · rename_i e
    cases r with
    | rol q rs => exact .inl ⟨rfl, _, q.sql⟩
    | ref hn =>
      obtain ⟨o, ho, r⟩ := hr.some_at hn
      simp only [tyD, ho] at e
      cases o with
      | lst ds => obtain ⟨vs, e1, _⟩ := r; exact .inl ⟨rfl, vs, SqL.of e1⟩
      | _ => cases e
    | _ => cases e
  · rename_i e
    cases r with
    | ref hn =>
      obtain ⟨o, ho, r⟩ := hr.some_at hn
      simp only [tyD, ho] at e
      cases o with
      | dic ds => obtain ⟨vs, e1, _⟩ := r; exact .inr (.inr (.inl ⟨rfl, .inl ⟨vs, e1⟩⟩))
      | dit ds => obtain ⟨vs, e1, _⟩ := r; exact .inr (.inr (.inl ⟨rfl, .inr ⟨vs, e1⟩⟩))
      | _ => cases e
    | _ => cases e
  · cases h
/-- a list of ours is written: the reading's end -/
theorem wr_lst {K : PySem.W.Frag} {m : List Addr} {s : S} {H : Hp} {n : Nat} {a : Addr} {ds : List D} {vs : List V} {d : D} {v : V} {Q : VK} (hr : HR K ad.ca m s H) (hn : m[n]? = some a) (r : RDs K m H vs ds) (rd : RD K m H v d)
    (h : Out K ad (fun _ _ _ _ => False) [] m H (RD K) Q (R.ok d (s.set n (.lst ds)))) (hf : ∀ o, s[n]? = some o → o.nf = true := by first | exact nf_ls (lsAt_some (by assumption)) | exact nf_dc (dcAt_some (by assumption)) | exact nf_in (by assumption) | exact nf_dc (by assumption)) : Q v (upd H a (.lst vs)) := by
  obtain ⟨h1, x⟩ := hr.write (u := .lst vs) (o := .lst ds) hn (fun x => ⟨vs, upd_same, r.mono x.toLe⟩) hf
  exact h m _ v x h1 (rd.mono x.toLe)
theorem m_append : MtR X "list.append" (LMR X.K ad (mth .append)) := by
  intro pins st σ H x xs v us Q I rx rv ⟨m, s, d, ds, hr, r1, r2, h⟩
  unfold mth at h
  split at h <;> first | contradiction | skip
  · obtain ⟨y, rfl, b⟩ := vs1 r2
    cases r1 with
    | ref hn =>
      split at h
      · rename_i zs hz
        split at h
        · rename_i hl
          obtain ⟨vs, e1, rs⟩ := hr.lst hn hz
          exact mt_append pins st σ H _ _ v us Q I rx rv ⟨_, vs, y, rfl, rfl, e1, by rw [rs.length]; have := sizeLine_eq; omega, wr_lst hr hn (rs.append (.cons b .nil)) .non h⟩
        · exact h.elim
      · exact h.elim
  all_goals exact h.elim
theorem m_extend : MtR X "list.extend" (LMR X.K ad (mth .extend)) := by
  intro pins st σ H x xs v us Q I rx rv ⟨m, s, d, ds, hr, r1, r2, h⟩
  unfold mth at h
  split at h <;> first | contradiction | skip
  · obtain ⟨y, rfl, b⟩ := vs1 r2
    cases r1 with
    | ref hn =>
      cases b with
      | ref hk =>
        split at h
        · rename_i zs ys hz hy
          split at h
          · rename_i hl
            obtain ⟨vs, e1, rs⟩ := hr.lst hn hz
            obtain ⟨ws, e2, rs2⟩ := hr.lst hk hy
            exact mt_extend pins st σ H _ _ v us Q I rx rv ⟨_, _, vs, ws, rfl, rfl, e1, e2, by rw [rs.length, rs2.length]; exact lim hl, wr_lst hr hn (rs.append rs2) .non h⟩
          · exact h.elim
        · exact h.elim
  all_goals exact h.elim
theorem m_pop0 : MtR X "list.pop" (LMR X.K ad (mth .pop0)) := by
  intro pins st σ H x xs v us Q I rx rv ⟨m, s, d, ds, hr, r1, r2, h⟩
  unfold mth at h
  split at h <;> first | contradiction | skip
  · cases r2
    cases r1 with
    | ref hn =>
      split at h
      · rename_i zs hz
        split at h
        · rename_i d hd
          obtain ⟨vs, e1, rs⟩ := hr.lst hn hz
          rw [← rs.length] at hd
          obtain ⟨y, hy, ry⟩ := rs.get hd
          exact mt_pop pins st σ H _ _ v us Q I rx rv ⟨_, vs, y, rfl, rfl, e1, hy, wr_lst hr hn rs.dropLast ry h⟩
        · exact h.elim
      · exact h.elim
  all_goals exact h.elim
theorem m_popAt : MtR X "list.pop" (LMR X.K ad (mth .popAt)) := by
  intro pins st σ H x xs v us Q I rx rv ⟨m, s, d, ds, hr, r1, r2, h⟩
  unfold mth at h
  split at h <;> first | contradiction | skip
  · rename_i n i s
    obtain ⟨y, rfl, b⟩ := vs1 r2
    cases b
    cases r1 with
    | ref hn =>
      split at h
      · rename_i zs hz
        split at h
        · rename_i hi
          split at h
          · rename_i d hd
            obtain ⟨vs, e1, rs⟩ := hr.lst hn hz
            obtain ⟨y, hy, ry⟩ := rs.get hd
            refine mt_popAt pins st σ H _ _ v us Q I rx rv ⟨_, vs, i, i.toNat, y, rfl, rfl, e1, by omega, by omega, ?_, hy, wr_lst hr hn (rs.eraseIdx _) ry h⟩
            rw [rs.length]
            unfold seqIndex?
            have h1 : ¬ i < 0 := by omega
            simp only [if_neg h1]
            rw [if_pos (by simp; omega)]
          · exact h.elim
        · exact h.elim
      · exact h.elim
  all_goals exact h.elim
theorem m_reverse : MtR X "list.reverse" (LMR X.K ad (mth .reverse)) := by
  intro pins st σ H x xs v us Q I rx rv ⟨m, s, d, ds, hr, r1, r2, h⟩
  unfold mth at h
  split at h <;> first | contradiction | skip
  · cases r2
    cases r1 with
    | ref hn =>
      split at h
      · rename_i zs hz
        obtain ⟨vs, e1, rs⟩ := hr.lst hn hz
        exact mt_reverse pins st σ H _ _ v us Q I rx rv ⟨_, vs, rfl, rfl, e1, wr_lst hr hn rs.reverse .non h⟩
      · exact h.elim
  all_goals exact h.elim
theorem m_insert : MtR X "list.insert" (LMR X.K ad (mth .insert)) := by
  intro pins st σ H x xs v us Q I rx rv ⟨m, s, d, ds, hr, r1, r2, h⟩
  unfold mth at h
  split at h <;> first | contradiction | skip
  · obtain ⟨y, z, rfl, b, c⟩ := vs2 r2
    cases b
    cases r1 with
    | ref hn =>
      split at h
      · rename_i zs hz
        split at h
        · rename_i hi
          obtain ⟨vs, e1, rs⟩ := hr.lst hn hz
          exact mt_insert pins st σ H _ _ v us Q I rx rv ⟨_, vs, _, z, rfl, rfl, e1, by rw [rs.length]; have := sizeLine_eq; omega, hi.1, by omega, wr_lst hr hn (((rs.take _).append (.cons c .nil)).append (rs.drop _)) .non h⟩
        · exact h.elim
      · exact h.elim
  all_goals exact h.elim
theorem m_clear : MtR X "list.clear" (LMR X.K ad (mth .clear)) := by
  intro pins st σ H x xs v us Q I rx rv ⟨m, s, d, ds, hr, r1, r2, h⟩
  unfold mth at h
  split at h <;> first | contradiction | skip
  · cases r2
    cases r1 with
    | ref hn =>
      split at h
      · rename_i zs hz
        obtain ⟨vs, e1, rs⟩ := hr.lst hn hz
        exact mt_clear pins st σ H _ _ v us Q I rx rv ⟨_, vs, rfl, rfl, e1, wr_lst hr hn .nil .non h⟩
      · exact h.elim
  all_goals exact h.elim
theorem m_join : MtR X "str.join" (LMR X.K ad (mth .join)) := by
  intro pins st σ H x xs v us Q I rx rv ⟨m, s, d, ds, hr, r1, r2, h⟩
  unfold mth at h
  split at h <;> first | contradiction | skip
  · obtain ⟨y, rfl, b⟩ := vs1 r2
    cases r1 with
    | str a =>
      split at h
      · rename_i zs hz
        split at h
        · rename_i ys hys
          split at h
          · rename_i hl
            obtain ⟨p, vs, rfl, hq, rs⟩ := b.seq hr hz
            have := strs_of rs hys
            subst this
            exact mt_join pins st σ H _ _ v us Q I rx rv ⟨_, p, ys, rfl, rfl, hq, by omega, h m H _ .refl hr (.str _)⟩
          · exact h.elim
        · exact h.elim
      · exact h.elim
  all_goals exact h.elim
theorem m_upper : MtR X "str.upper" (LMR X.K ad (mth .upper)) := by
  intro pins st σ H x xs v us Q I rx rv ⟨m, s, d, ds, hr, r1, r2, h⟩
  unfold mth at h
  split at h <;> first | contradiction | skip
  · cases r2
    cases r1 with
    | str a =>
      split at h
      · exact mt_upper pins st σ H _ _ v us Q I rx rv ⟨_, rfl, rfl, by omega, h m H _ .refl hr (.str _)⟩
      · exact h.elim
  all_goals exact h.elim
theorem m_index (hu : X.A.units + 100 < cLine) : MtR X "list.index" (LMR X.K ad (mth .index)) := by
  intro pins st σ H x xs v us Q I rx rv ⟨m, s, d, ds, hr, r1, r2, h⟩
  unfold mth at h
  split at h <;> first | contradiction | skip
  · rename_i s0 m0 x0 xs0 s1' n0 dd0 hq0
    obtain ⟨y, rfl, b⟩ := vs1 r2
    cases r1 with
    | ref hn =>
      split at h
      · rename_i zs hz
        split at h
        · rename_i hk
          obtain ⟨vs, e1, rs⟩ := hr.lst hn hz
          cases rv with
          | @cons _ u _ _ ru rn =>
            cases rn
            cases rx
            obtain ⟨its, rl, ⟨⟨cls, dd, data, sl⟩, n, ho, hc, hdn, hdt⟩, hlen⟩ := I.list (SqL.of e1)
            simp only at hc hdt
            subst hc hdt
            obtain ⟨e, he⟩ := in_at I hr (by omega) b ru
            obtain ⟨q1, q2⟩ := he rs rl hk
            obtain ⟨s1, s2⟩ := inL_some hk
            have hl : its.length = zs.length := by rw [← rl.length, rs.length]
            have pt : ∀ (i : Nat) (hi : i < its.length) (c : D), zs[i]? = some c → e its[i] = (eqD s0 60 c dd0 == some true) := by
              intro i hi c hc
              obtain ⟨b', hb'⟩ := s1 c (List.mem_of_getElem? hc)
              obtain ⟨w, hw, rw'⟩ := rs.get hc
              have hiv : RelV w its[i] := by
                have hi2 : i < vs.length := by rw [rl.length]; exact hi
                obtain ⟨w2, hw2⟩ : ∃ w2, vs[i]? = some w2 := ⟨_, List.getElem?_eq_getElem hi2⟩
                rw [hw2] at hw; cases hw
                obtain ⟨u2, hu2, r2⟩ := rl.get hw2
                rw [List.getElem?_eq_getElem hi] at hu2
                cases hu2
                exact r2
              have := (he (.cons rw' .nil) (.cons hiv .nil) (show inL (eqD s0 60) dd0 [c] = some (b' || false) by unfold inL; rw [hb']; rfl)).2
              rw [hb']
              simp at this ⊢
              cases b' <;> simpa using this
            have hj : posL (eqD s0 60) dd0 zs < zs.length := List.findIdx_lt_length_of_exists (by obtain ⟨y, hy, h2⟩ := s2 rfl; exact ⟨y, hy, by rw [h2]; rfl⟩)
            have hsl := sizeLine_eq
            refine call_meets PySem.F.slot_list_index ⟨_, ho, rfl⟩ PySem.F.entry_list_index (PySem.F.args_list_index_2 _ _)
              (SeqAt.list_indexAt _ its.toArray n dd sl u e (posL (eqD s0 60) dd0 zs) (by simpa [hl] using hj) (by have := rl.length; omega) ?_ ?_) ⟨ho, fun y hy => q1 y (by simpa using hy), ⟨.int (posL (eqD s0 60) dd0 zs : Nat), H, I.tok _, ⟨_, rfl⟩, h m H _ .refl hr (.int _)⟩⟩
            · have := pt _ (by rw [hl]; exact hj) _ (List.getElem?_eq_getElem hj)
              have g := List.findIdx_getElem (p := fun y => eqD s0 60 y dd0 == some true) (xs := zs) (w := hj)
              simpa [posL] using this.trans g
            · intro i hi hij
              have hi2 : i < its.length := by simpa using hi
              have := pt i hi2 _ (List.getElem?_eq_getElem (by rw [← hl]; exact hi2))
              have g := List.not_of_lt_findIdx (p := fun y => eqD s0 60 y dd0 == some true) (xs := zs) hij
              simpa using this.trans (by simpa using g)
        · exact h.elim
      · exact h.elim
  all_goals exact h.elim
/-- o.m(..) -/
theorem wr_dic {K : PySem.W.Frag} {m : List Addr} {s : S} {H : Hp} {Q : VK} {n : Nat} {a : Addr} {kvs : List (Key × D)} {kws : List (Key × V)} {y : V} {d : D} (hr : HR K ad.ca m s H) (hn : m[n]? = some a) (rs : RKs K m H kws kvs) (ry : RD K m H y d)
    (h : Out K ad (fun _ _ _ _ => False) [] m H (RD K) Q (.ok d (s.set n (.dic kvs)))) (hf : ∀ o, s[n]? = some o → o.nf = true := by first | exact nf_ls (lsAt_some (by assumption)) | exact nf_dc (dcAt_some (by assumption)) | exact nf_in (by assumption) | exact nf_dc (by assumption)) : Q y (upd H a (.dK kws)) := by
  obtain ⟨h5, x5⟩ := hr.write (u := .dK kws) (o := .dic kvs) hn (fun x => ⟨_, upd_same, RKs.mono x.toLe rs⟩) hf
  exact h m _ _ x5 h5 (ry.mono x5.toLe)
theorem d_get1N {pins : List (Addr × Obj)} {σ : St} {H : Hp} {s : Shared} {a : Addr} {kvs : List (Key × V)} {A : Around} {E : Value → Shared → Prop} {Q : Value → Shared → Prop} (I : Inv X pins σ H s) (e : Rd H a (.dK kvs)) (h : ∀ s', Inv X pins σ H s' → Q .none s') :
    wpAny (model X.prog X.w) A (call (.builtin "dict.get") [.ref a, .none]) Q E s := by
  obtain ⟨z, hd, vs, rel, dd⟩ := dk_rd I.hok e
  obtain ⟨f, hm, hf⟩ := none_map dd
  refine call_meetsIn PySem.F.slot_dict_get dd.typeIs PySem.F.entry_dict_get (PySem.F.args_dict_get_2 _ _) (meets_dict_get (noneKind X.prog X.w) a (k := none) rfl hd) ⟨f, hm, ?_⟩
  rw [hf]
  exact h _ (I.tok _)
theorem d_get2N {pins : List (Addr × Obj)} {σ : St} {H : Hp} {s : Shared} {a : Addr} {kvs : List (Key × V)} {A : Around} {E : Value → Shared → Prop} {r : Value} {Q : Value → Shared → Prop} (I : Inv X pins σ H s) (e : Rd H a (.dK kvs)) (h : ∀ s', Inv X pins σ H s' → Q r s') :
    wpAny (model X.prog X.w) A (call (.builtin "dict.get") [.ref a, .none, r]) Q E s := by
  obtain ⟨z, hd, vs, rel, dd⟩ := dk_rd I.hok e
  obtain ⟨f, hm, hf⟩ := none_map dd
  refine call_meetsIn PySem.F.slot_dict_get dd.typeIs PySem.F.entry_dict_get (PySem.F.args_dict_get_3 _ _ _) (meets_dict_get_default (noneKind X.prog X.w) a (k := none) rfl hd r) ⟨f, hm, ?_⟩
  rw [hf]
  exact h _ (I.tok _)
/-- the first place of a text in a text -/
theorem m_sidx : MtR X "str.index" (LMR X.K ad (mth .sidx)) := by
  intro pins st σ H x xs v us Q I rx rv ⟨m, s, d, ds, hr, r1, r2, h⟩
  unfold mth at h
  split at h <;> first | contradiction | skip
  · obtain ⟨y, rfl, b⟩ := vs1 r2
    cases r1 with
    | str a =>
      cases b with
      | str c =>
        split at h
        · rename_i i r ho
          obtain ⟨t, rfl⟩ := rx
          cases rv with
          | cons r1 rs =>
            cases rs
            obtain ⟨u, rfl⟩ := r1
            exact PySem.SC.index ho ⟨.int i, H, I.tok _, ⟨_, rfl⟩, h m H _ .refl hr (.int _)⟩
        · exact h.elim
  all_goals exact h.elim
theorem m_split : MtR X "str.split" (LMR X.K ad (mth .split)) := by
  intro pins st σ H x xs v us Q I rx rv ⟨m, s, d, ds, hr, r1, r2, h⟩
  unfold mth at h
  split at h <;> first | contradiction | skip
  · obtain ⟨y, rfl, b⟩ := vs1 r2
    cases r1 with
    | str a =>
      cases b with
      | str c =>
        split at h
        · rename_i hl
          unfold mkL at h
          split at h
          · have hsl := sizeLine_eq
            refine mt_split pins st σ H _ _ v us Q I rx rv ⟨_, _, rfl, rfl, by simpa using hl.1, by omega, ?_⟩
            have rs : ∀ {K : PySem.W.Frag} {m : List Addr} {H : Hp} (ys : List Str), RDs K m H (ys.map V.str) (ys.map D.str) := fun ys => by
              induction ys with
              | nil => exact .nil
              | cons y ys ih => exact .cons (.str y) ih
            exact new_lst hr (rs _) h
          · exact h.elim
        · exact h.elim
  all_goals exact h.elim
theorem m_dget (hu : X.A.units + 100 < cLine) : MtR X "dict.get" (LMR X.K ad (mth .dget)) := by
  intro pins st σ H x xs v us Q I rx rv ⟨m, s, d, ds, hr, r1, r2, h⟩
  unfold mth at h
  split at h <;> first | contradiction | skip
  · cases r2 with
    | cons rk rn => cases rn; cases rv with
      | cons rk2 rn => cases rn; cases r1 with
        | @ref a n hn =>
          split at h
          · rename_i kvs q hd hq
            obtain ⟨kws, e1, rs⟩ := hr.at_ _ _ _ hn (dcAt_some hd)
            cases (show v = Value.ref a from rx)
            have := keyOf_rel rk hq
            subst this
            refine d_get1 (by omega) I (DGet.k e1) rk2 fun w' s' I' rw' => ⟨_, H, I', rw', ?_⟩
            rcases rks_val rs q with ⟨w, d, z1, z2, z3⟩ | ⟨z1, z2⟩
            · rw [z2] at h; rw [z1]; exact h m H _ .refl hr z3
            · rw [z2] at h; rw [z1]; exact h m H _ .refl hr .non
          · rename_i kvs hd hq
            split at h
            · rename_i hnon
              obtain ⟨kws, e1, rs⟩ := hr.at_ _ _ _ hn (dcAt_some hd)
              cases (show v = Value.ref a from rx)
              cases rk with
              | non =>
                cases (show _ = Value.none from rk2)
                exact d_get1N I (.inl e1) fun s' I' => ⟨.non, H, I', rfl, h m H _ .refl hr .non⟩
              | _ => cases hnon
            · exact h.elim
          · exact h.elim
  · cases r2 with
    | cons rk rn => cases rn with
      | cons rd rn => cases rn; cases rv with
        | cons rk2 rn => cases rn with
          | cons rd2 rn => cases rn; cases r1 with
            | @ref a n hn =>
              split at h
              · rename_i kvs q hd hq
                obtain ⟨kws, e1, rs⟩ := hr.at_ _ _ _ hn (dcAt_some hd)
                cases (show v = Value.ref a from rx)
                have := keyOf_rel rk hq
                subst this
                refine d_get2 (by omega) I (DGet.k e1) rk2 rd2 fun w' s' I' rw' => ⟨_, H, I', rw', ?_⟩
                rcases rks_val rs q with ⟨w, d, z1, z2, z3⟩ | ⟨z1, z2⟩
                · rw [z2] at h; rw [z1]; exact h m H _ .refl hr z3
                · rw [z2] at h; rw [z1]; exact h m H _ .refl hr rd
              · rename_i kvs hd hq
                split at h
                · rename_i hnon
                  obtain ⟨kws, e1, rs⟩ := hr.at_ _ _ _ hn (dcAt_some hd)
                  cases (show v = Value.ref a from rx)
                  cases rk with
                  | non =>
                    cases (show _ = Value.none from rk2)
                    exact d_get2N I (.inl e1) fun s' I' => ⟨_, H, I', rd2, h m H _ .refl hr rd⟩
                  | _ => cases hnon
                · exact h.elim
              · exact h.elim
  all_goals exact h.elim
theorem m_dpop : MtR X "dict.pop" (LMR X.K ad (mth .dpop)) := by
  intro pins st σ H x xs v us Q I rx rv ⟨m, s, d, ds, hr, r1, r2, h⟩
  unfold mth at h
  split at h <;> first | contradiction | skip
  · cases r2 with
    | cons rk rn => cases rn; cases rv with
      | cons rk2 rn => cases rn; cases r1 with
        | @ref a n hn =>
          split at h
          · rename_i kvs q hd hq
            obtain ⟨kws, e1, rs⟩ := hr.at_ _ _ _ hn (dcAt_some hd)
            cases (show v = Value.ref a from rx)
            have := keyOf_rel rk hq
            subst this
            split at h
            · rename_i d hv
              rcases rks_val rs q with ⟨w, d2, z1, z2, z3⟩ | ⟨z1, z2⟩
              · rw [hv] at z2; cases z2
                exact d_pop I e1 rk2 z1 (.inl rfl) fun w' s' I' rw' => ⟨_, _, I', rw', wr_dic hr hn (rks_drop rs q) z3 h⟩
              · rw [hv] at z2; cases z2
            · exact h.elim
          · exact h.elim
  · cases r2 with
    | cons rk rn => cases rn with
      | cons rd rn => cases rn; cases rv with
        | cons rk2 rn => cases rn with
          | cons rd2 rn => cases rn; cases r1 with
            | @ref a n hn =>
              split at h
              · rename_i kvs q hd hq
                obtain ⟨kws, e1, rs⟩ := hr.at_ _ _ _ hn (dcAt_some hd)
                cases (show v = Value.ref a from rx)
                have := keyOf_rel rk hq
                subst this
                split at h
                · rename_i d hv
                  rcases rks_val rs q with ⟨w, d2, z1, z2, z3⟩ | ⟨z1, z2⟩
                  · rw [hv] at z2; cases z2
                    exact d_pop I e1 rk2 z1 (.inr ⟨_, rfl⟩) fun w' s' I' rw' => ⟨_, _, I', rw', wr_dic hr hn (rks_drop rs q) z3 h⟩
                  · rw [hv] at z2; cases z2
                · rename_i hv
                  rcases rks_val rs q with ⟨w, d2, z1, z2, z3⟩ | ⟨z1, z2⟩
                  · rw [hv] at z2; cases z2
                  · exact d_popD I e1 rk2 z1 fun s' I' => ⟨_, H, I', rd2, h m H _ .refl hr rd⟩
              · exact h.elim
  all_goals exact h.elim
theorem m_dsetd : MtR X "dict.setdefault" (LMR X.K ad (mth .dsetd)) := by
  intro pins st σ H x xs v us Q I rx rv ⟨m, s, d, ds, hr, r1, r2, h⟩
  unfold mth at h
  split at h <;> first | contradiction | skip
  · cases r2 with
    | cons rk rn => cases rn with
      | cons rd rn => cases rn; cases rv with
        | cons rk2 rn => cases rn with
          | cons rd2 rn => cases rn; cases r1 with
            | @ref a n hn =>
              split at h
              · rename_i kvs q hd hq
                obtain ⟨kws, e1, rs⟩ := hr.at_ _ _ _ hn (dcAt_some hd)
                cases (show v = Value.ref a from rx)
                have := keyOf_rel rk hq
                subst this
                have hle := rks_len rs
                have hsz := sizeLine_eq
                split at h
                · rename_i hlen
                  rcases rks_val rs q with ⟨w, d3, z1, z2, z3⟩ | ⟨z1, z2⟩
                  · rw [z2] at h
                    refine d_setd I e1 rk2 rd2 (by omega) (fun v hv w' s' I' rw' => ?_) fun hn => ?_
                    · rw [z1] at hv; cases hv
                      exact ⟨_, H, I', rw', h m H _ .refl hr z3⟩
                    · rw [z1] at hn; cases hn
                  · rw [z2] at h
                    refine d_setd I e1 rk2 rd2 (by omega) (fun v hv => ?_) fun _ w' s' I' rw' => ⟨_, _, I', rw', wr_dic hr hn (rks_put rs q rd) rd h⟩
                    rw [z1] at hv; cases hv
                · exact h.elim
              · exact h.elim
  all_goals exact h.elim
theorem le_mth (hu : X.A.units + 100 < cLine) (mt : Mth) (hno : mt.no = false) {fo : Env → S → R D} {fa : Env → S → R (List D)} (ho : PE X o (LE X.K ad W fo)) (ha : PA X (e :: es) (LA X.K ad W fa)) (hs : noStars (e :: es) = true) (hl : (e :: es).length < 30) (hb : noCall o = true) (hline : (apos.endLine == pos.line) = true) :
    PE X (.Call (.Attribute o mt.name apos) (e :: es) [] pos) (LE X.K ad W fun env s => (fo env s).bind fun x s1 => if rcv mt.ty s1 x then (fa env s1).bind fun xs s2 => R.of (mth mt x xs s2) else .no) := by
  have h1 : noStar e = true ∧ noStars es = true := by
    unfold noStars at hs ⊢
    rw [List.all_cons, Bool.and_eq_true] at hs
    exact hs
  have key : ∀ {id : String}, PlainAttrs mt.ty.name → Slot mt.ty.name mt.name id → typeOf (.builtin id) = pure (.type "method_descriptor") → MtR X id (LMR X.K ad (mth mt)) →
      PE X (.Call (.Attribute o mt.name apos) (e :: es) [] pos) (LE X.K ad W fun env s => (fo env s).bind fun x s1 => if rcv mt.ty s1 x then (fa env s1).bind fun xs s2 => R.of (mth mt x xs s2) else .no) := fun pa sl ty hm =>
    (pe_bm pa sl ty hm ho ha (attrBase hb) (few hs hl) hline (star_cons h1.1) (back_no h1.2)).imp fun σ H Q ⟨m, s, env, hr, er, h⟩ => ⟨m, s, env, hr, er, h.bind fun x s1 m1 H1 v _ x1 hr1 rv h1 => by
      split at h1
      · rename_i hc
        exact ⟨rcv_ty hr1 rv hc, m1, s1, env, hr1, er.mono x1.toLe, h1.bind fun ys s2 m2 H2 us _ x2 hr2 ru h2 => ⟨m2, s2, x, ys, hr2, rv.mono x2.toLe, ru, h2.of_any⟩⟩
      · exact h1.elim⟩
  cases mt with
  | append => exact key PySem.F.plainAttrs_list PySem.F.slot_list_append PySem.F.type_list_append m_append
  | extend => exact key PySem.F.plainAttrs_list PySem.F.slot_list_extend PySem.F.type_list_extend m_extend
  | popAt => exact key PySem.F.plainAttrs_list PySem.F.slot_list_pop PySem.F.type_list_pop m_popAt
  | insert => exact key PySem.F.plainAttrs_list PySem.F.slot_list_insert PySem.F.type_list_insert m_insert
  | join => exact key PySem.F.plainAttrs_str PySem.F.slot_str_join PySem.F.type_str_join m_join
  | index => exact key PySem.F.plainAttrs_list PySem.F.slot_list_index PySem.F.type_list_index (m_index hu)
  | dget => exact key PySem.F.plainAttrs_dict PySem.F.slot_dict_get PySem.F.type_dict_get (m_dget hu)
  | dpop => exact key PySem.F.plainAttrs_dict PySem.F.slot_dict_pop PySem.F.type_dict_pop m_dpop
  | dsetd => exact key PySem.F.plainAttrs_dict PySem.F.slot_dict_setdefault PySem.F.type_dict_setdefault m_dsetd
  | split => exact key PySem.F.plainAttrs_str PySem.F.slot_str_split PySem.F.type_str_split m_split
  | sidx => exact key PySem.F.plainAttrs_str PySem.F.slot_str_index PySem.F.type_str_index m_sidx
  | _ => cases hno
theorem le_mth0 (mt : Mth) (hno : mt.no = true) {fo : Env → S → R D} (ho : PE X o (LE X.K ad W fo)) (hb : noCall o = true) (hline : (apos.endLine == pos.line) = true) :
    PE X (.Call (.Attribute o mt.name apos) [] [] pos) (LE X.K ad W fun env s => (fo env s).bind fun x s1 => if rcv mt.ty s1 x then R.of (mth mt x [] s1) else .no) := by
  have key : ∀ {id : String}, PlainAttrs mt.ty.name → Slot mt.ty.name mt.name id → typeOf (.builtin id) = pure (.type "method_descriptor") → MtR X id (LMR X.K ad (mth mt)) →
      PE X (.Call (.Attribute o mt.name apos) [] [] pos) (LE X.K ad W fun env s => (fo env s).bind fun x s1 => if rcv mt.ty s1 x then R.of (mth mt x [] s1) else .no) := fun pa sl ty hm =>
    (pe_bm0 pa sl ty hm ho (attrBase hb) hline).imp fun σ H Q ⟨m, s, env, hr, er, h⟩ => ⟨m, s, env, hr, er, h.bind fun x s1 m1 H1 v _ x1 hr1 rv h1 => by
      split at h1
      · rename_i hc
        exact ⟨rcv_ty hr1 rv hc, m1, s1, x, [], hr1, rv, .nil, h1.of_any⟩
      · exact h1.elim⟩
  cases mt with
  | pop0 => exact key PySem.F.plainAttrs_list PySem.F.slot_list_pop PySem.F.type_list_pop m_pop0
  | reverse => exact key PySem.F.plainAttrs_list PySem.F.slot_list_reverse PySem.F.type_list_reverse m_reverse
  | clear => exact key PySem.F.plainAttrs_list PySem.F.slot_list_clear PySem.F.type_list_clear m_clear
  | upper => exact key PySem.F.plainAttrs_str PySem.F.slot_str_upper PySem.F.type_str_upper m_upper
  | _ => cases hno
/-! ### defs -/
/-- what a def promises that does c -/
def SpD (K : PySem.W.Frag) (ad : Ad) (np : Nat) (c : List D → S → R D) : Sp := fun vs H Q E => vs.length = np ∧ ∃ m s ds, HR K ad.ca m s H ∧ RDs K m H vs ds ∧ Out K ad (fun cls d _ H => E cls d H) [] m H (RD K) Q (c ds s)
structure FunAt (X : Cx) (ad : Ad) (k : Nat) (nm : Str) (np : Nat) (c : List D → S → R D) : Prop where
  ex : ∃ (f : Addr) (fd : FuncData) (ps : List Str), X.mg nm = some (.ref f) ∧ PySem.W.keepIn X.K (.ref f) = true ∧ Binds X.K fd ps [] ∧ FnOk X.prog X.w X.K X.mg X.base (L2.CX X.prog X.w) k f fd ps (SpD X.K ad np c)
theorem Out.wish {α υ : Type} {K : PySem.W.Frag} {W W' : WX} {σ σ' : L2.St} {m : List Addr} {H : Hp} {rel : List Addr → Hp → υ → α → Prop} {Q : υ → Hp → Prop} {r : R α} (h : Out K ad W σ m H rel Q r) (k : ∀ c H', W c none σ H' → W' c none σ' H') : Out K ad W' σ' m H rel Q r := by
  cases r with
  | ok a s => exact h
  | ex c s => exact fun m' H' x hr => k _ _ (h m' H' x hr)
  | no => exact h
theorem le_call {k np : Nat} {x : Str} {c : List D → S → R D} {fa : Env → S → R (List D)} (F : FunAt X ad k x np c) (hr : Room k X.A) (hg : Gl X x) (tk : Takes X W) (ha : PA X (e :: es) (LA X.K ad W fa)) (hnp : (e :: es).length = np) (hs : noStars (e :: es) = true) (hd : (x == ("__debug__" : Str)) = false) (hlen : ∀ env s ds s', fa env s = .ok ds s' → ds.length = np) :
    PE X (.Call (.Name x p) (e :: es) [] pos) (LE X.K ad W fun env s => (fa env s).bind fun xs s1 => c xs s1) := by
  obtain ⟨f, fd, ps, hm, hk, hb, F⟩ := F.ex
  have h1 : noStar e = true ∧ noStars es = true := by
    unfold noStars at hs ⊢
    rw [List.all_cons, Bool.and_eq_true] at hs
    exact hs
  refine (pe_callS F hr hg hm hk hb (fun σ => passAt tk σ) ha hd (star_cons h1.1) (back_no h1.2)).imp fun σ H Q ⟨m, s, env, hr, er, h⟩ => ⟨m, s, env, hr, er, h.bind fun xs s1 m1 H1 vs hxs x1 hr1 rv h1 => ?_⟩
  exact ⟨by rw [rv.length, hlen _ _ _ _ hxs], m1, s1, xs, hr1, rv, h1.wish fun c H' q => q⟩
/-- f() -/
theorem pe_call0S {k : Nat} {f : Addr} {fd : FuncData} {ps : List Str} {sp : Sp} {E : L2.St → XK} {x : Str} (F : FnOk X.prog X.w X.K X.mg X.base (L2.CX X.prog X.w) k f fd ps sp) (hr : Room k X.A) (hg : Gl X x) (hm : X.mg x = some (.ref f)) (hk : PySem.W.keepIn X.K (.ref f) = true) (hb : Binds X.K fd ps []) (hx : ∀ σ, PassesAt (L2.CX X.prog X.w) X σ (E σ))
    (hdb : (x == ("__debug__" : Str)) = false) : PE X (.Call (.Name x p) [] [] pos) (tCallS sp E tNil) := by
  refine ⟨fun pins s σ H Q I h => ?_⟩
  refine wpAny_Call_Name_kw (ld_glob I hg hm ?_ hdb)
  exact PySem.W.callWith_K0 I.kIn hk (run_fnS F hr hb (hx σ) I .nil h)
theorem le_call0 {k : Nat} {x : Str} {c : List D → S → R D} (F : FunAt X ad k x 0 c) (hr : Room k X.A) (hg : Gl X x) (tk : Takes X W) (hd : (x == ("__debug__" : Str)) = false) :
    PE X (.Call (.Name x p) [] [] pos) (LE X.K ad W fun env s => c [] s) := by
  obtain ⟨f, fd, ps, hm, hk, hb, F⟩ := F.ex
  exact (pe_call0S F hr hg hm hk hb (fun σ => passAt tk σ) hd).imp fun σ H Q ⟨m, s, env, hr, er, h⟩ => ⟨rfl, m, s, [], hr, .nil, h.wish fun c H' q => q⟩
end
end T
set_option Elab.async false
set_option linter.all false
set_option maxRecDepth 100000
set_option maxHeartbeats 4000000
/-! TLi: what is walked; targets; for. -/
namespace T
open PySem PySem.Spec L2
open PyProof.Rows hiding St
abbrev Gs := List (Nat × List D)
def Grd (gs : Gs) (s : S) : Prop := ∀ p ∈ gs, lsAt s p.1 = some p.2
/-- J walks along ds while the lists at gs stay -/
structure Wk (K : PySem.W.Frag) (ad : Ad) (J : It) (ds : List D) (gs : Gs) (m0 : List Addr) (H0 : Hp) : Prop where
  go : ∀ i m s H, Ext K m0 H0 m H → HR K ad.ca m s H → Grd gs s → i < ds.length → J.go i H
  yld : ∀ i m s H x H', Ext K m0 H0 m H → HR K ad.ca m s H → Grd gs s → i < ds.length → J.yld i H x H' → ∃ d, ds[i]? = some d ∧ Ext K m H m H' ∧ HR K ad.ca m s H' ∧ RD K m H' x d
  stop : ∀ m s H, Ext K m0 H0 m H → HR K ad.ca m s H → Grd gs s → J.stop ds.length H
def RJ (K : PySem.W.Frag) (ad : Ad) (m : List Addr) (H : Hp) (J : It) (p : List D × Gs) : Prop := Wk K ad J p.1 p.2 m H
def LI (K : PySem.W.Frag) (ad : Ad) (W : WX) (f : Env → S → R (List D × Gs)) : TI := fun σ H R => ∃ m s env, HR K ad.ca m s H ∧ ER K m H σ env ∧ Out K ad W σ m H (RJ K ad) R (f env s)
def sgn (c : Nat) : D := .str ⟨#[c]⟩
def itSeq (d : D) (s : S) : R (List D × Gs) := match d with
  | .tup ds => .ok (ds, []) s
  | .rol ds => .ok (ds, []) s
  | .str z => .ok (z.cps.toList.map sgn, []) s
  | .ref n => match lsAt s n with
    | some ds => .ok (ds, [(n, ds)]) s
    | none => match s[n]? with
      | some (.fzk kvs) => .ok (kvs.map fun p => keyR p.1, []) s
      | some (.fzt kvs) => .ok (kvs.map fun p => .tup (p.1.map keyR), []) s
      | _ => .no
  | _ => .no
section
variable {X : Cx} {ad : Ad} {W : WX} {e tg : Expr} {p pos : Pos} {K : PySem.W.Frag} {m : List Addr} {H : Hp}
theorem wk_tup {a : Addr} {vs : List V} {ds : List D} (q : SqT K H a vs) (r : RDs K m H vs ds) : Wk K ad (Itt K a) ds [] m H :=
  ⟨fun i m' s H' x hr _ hi => ⟨vs, vs[i]'(by rw [r.length]; exact hi), x.tup _ _ q, by simp [r.length, hi]⟩,
   fun i m' s H' v H'' x hr _ hi y => by
    obtain ⟨rfl, hy⟩ := y
    obtain ⟨d, h1, h2⟩ := r.getV (hy vs (x.tup _ _ q))
    exact ⟨d, h1, .refl, hr, h2.mono x.toLe⟩,
   fun m' s H' x hr _ => ⟨vs, x.tup _ _ q, by rw [r.length]; exact Nat.le_refl _⟩⟩
theorem wk_rol {a : Addr} {vs : List V} {ds : List D} (q : SqF K H a vs) (r : RDs K m H vs ds) : Wk K ad (Itl K a) ds [] m H :=
  ⟨fun i m' s H' x hr _ hi => ⟨vs, vs[i]'(by rw [r.length]; exact hi), (x.rol _ _ q).sql, by simp [r.length, hi]⟩,
   fun i m' s H' v H'' x hr _ hi y => by
    obtain ⟨rfl, hy⟩ := y
    obtain ⟨d, h1, h2⟩ := r.getV (hy vs (x.rol _ _ q).sql)
    exact ⟨d, h1, .refl, hr, h2.mono x.toLe⟩,
   fun m' s H' x hr _ => ⟨vs, (x.rol _ _ q).sql, by rw [r.length]; exact Nat.le_refl _⟩⟩
theorem wk_ref {a : Addr} {n : Nat} {ds : List D} (hn : m[n]? = some a) : Wk K ad (Itl K a) ds [(n, ds)] m H := by
  have at_ : ∀ {m' s H'}, Ext K m H m' H' → HR K ad.ca m' s H' → Grd [(n, ds)] s → ∃ vs, SqL K H' a vs ∧ RDs K m' H' vs ds := fun {m' s H'} x hr g => by
    obtain ⟨vs, e, r⟩ := hr.lst (x.pre _ _ hn) (g (n, ds) (by simp))
    exact ⟨vs, SqL.of e, r⟩
  refine ⟨fun i m' s H' x hr g hi => ?_, fun i m' s H' v H'' x hr g hi y => ?_, fun m' s H' x hr g => ?_⟩
  · obtain ⟨vs, q, r⟩ := at_ x hr g
    exact ⟨vs, vs[i]'(by rw [r.length]; exact hi), q, by simp [r.length, hi]⟩
  · obtain ⟨vs, q, r⟩ := at_ x hr g
    obtain ⟨rfl, hy⟩ := y
    obtain ⟨d, h1, h2⟩ := r.getV (hy vs q)
    exact ⟨d, h1, .refl, hr, h2⟩
  · obtain ⟨vs, q, r⟩ := at_ x hr g
    exact ⟨vs, q, by rw [r.length]; exact Nat.le_refl _⟩
theorem wk_str {z : Str} : Wk K ad (Its z) (z.cps.toList.map sgn) [] m H :=
  ⟨fun i m' s H' x hr _ hi => (by simpa using hi : i < z.cps.size),
   fun i m' s H' v H'' x hr _ hi y => by
    obtain ⟨rfl, c, hc, rfl⟩ := y
    refine ⟨sgn c, ?_, .refl, hr, .str _⟩
    rw [List.getElem?_map, Array.getElem?_toList, hc]; rfl,
   fun m' s H' x hr _ => (by simp : z.cps.size ≤ (z.cps.toList.map sgn).length)⟩
theorem key_rd (k : Key) : RD K m H (kV k) (keyR k) := by
  cases k with
  | inl i => exact .int i
  | inr x => exact .str x
theorem kds_rd : ∀ ks : List Key, RDs K m H (ks.map kV) (ks.map keyR)
  | [] => .nil
  | k :: ks => .cons (key_rd k) (kds_rd ks)
theorem rks_map {κ : Type} {g : κ → D} : ∀ {ks : List (κ × V)} {ls : List (κ × D)}, Paired (fun p q => p.1 = q.1 ∧ RD K m H p.2 q.2) ks ls → (ls.map fun p => g p.1) = ks.map fun p => g p.1
  | _, _, .nil => rfl
  | _, _, .cons h r => by rw [List.map_cons, List.map_cons, rks_map r, h.1]
theorem wk_keys {a : Addr} {od : Obj} {kws : List (Key × V)} (e : H a = some (.frz od (.dK kws))) : Wk K ad (Itk a od kws) (kws.map fun p => keyR p.1) [] m H :=
  ⟨fun i m' s H' x hr _ hi => ⟨x.frz _ _ _ e, by simpa using hi⟩,
   fun i m' s H' v H'' x hr _ hi y => by
    obtain ⟨rfl, k, u, hk, rfl⟩ := y
    exact ⟨keyR k, by rw [List.getElem?_map, hk]; rfl, .refl, hr, key_rd k⟩,
   fun m' s H' x hr _ => ⟨x.frz _ _ _ e, by simp⟩⟩
theorem wk_keysT {a : Addr} {od : Obj} {kws : List (List Key × V)} (e : H a = some (.frz od (.dT kws))) : Wk K ad (Itkt a od kws) (kws.map fun p => .tup (p.1.map keyR)) [] m H :=
  ⟨fun i m' s H' x hr _ hi => ⟨x.frz _ _ _ e, by simpa using hi⟩,
   fun i m' s H' v H'' x hr _ hi y => by
    obtain ⟨rfl, k, u, q, hk, rfl, hq⟩ := y
    exact ⟨.tup (k.map keyR), by rw [List.getElem?_map, hk]; rfl, .refl, hr, .tup (.inl (.inl hq)) (kds_rd k)⟩,
   fun m' s H' x hr _ => ⟨x.frz _ _ _ e, by simp⟩⟩
/-- a list, a tuple, a text -/
theorem li_seq {fa : Env → S → R D} (ha : PE X e (LE X.K ad W fa)) : PI X tg e (LI X.K ad W fun env s => (fa env s).bind itSeq) := by
  refine ⟨fun pins st σ H R I h => ?_⟩
  obtain ⟨m, s, env, hr, er, h⟩ := h
  have h' := h.bind (relA := RD X.K) (Q1 := fun v H1 => ∃ m1 s1 d, HR X.K ad.ca m1 s1 H1 ∧ RD X.K m1 H1 v d ∧ Out X.K ad W σ m1 H1 (RJ X.K ad) R (itSeq d s1)) fun x s1 m1 H1 v _ x1 hr1 rv h1 => ⟨m1, s1, x, hr1, rv, h1⟩
  refine thn (ha.run pins st σ H _ I ⟨m, s, env, hr, er, h'⟩) fun v s1 ⟨x, H1, I1, r1, m1, s1', d, hr1, rd, q⟩ => ?_
  cases rd with
  | @tup a vs ds hq rs =>
    cases r1
    obtain ⟨its, rv, p, hz⟩ := I1.tuple hq
    refine wpAny_pyIter_tuple (show s1.heap.IsTuple a its.toArray from p) ?_
    refine ⟨s1.heap.objs.size, [s1.heap.objs.size], _, _, H1, rfl, I1.kept (t' := s1.toks) fun b o e => Heap.get?_push_of_some _ e, turn_tuple a _, ⟨_, Heap.get?_push_size _ rfl, rfl, rfl⟩, fun b hb => ?_, q m1 H1 _ .refl hr1 (wk_tup hq rs)⟩
    have e : b = s1.heap.objs.size := by simpa using hb
    subst e
    exact I1.fpOk (Nat.le_refl _) (I1.hok.fresh (Nat.le_refl _))
  | @rol a vs ds hq rs =>
    cases r1
    obtain ⟨its, rv, p, hz⟩ := I1.list hq.sql
    refine wpAny_pyIter_list p.isList ?_
    refine ⟨s1.heap.objs.size, [s1.heap.objs.size], _, _, H1, rfl, I1.kept (t' := s1.toks) fun b o e => Heap.get?_push_of_some _ e, turn_list a _, ⟨_, Heap.get?_push_size _ rfl, rfl, rfl⟩, fun b hb => ?_, q m1 H1 _ .refl hr1 (wk_rol hq rs)⟩
    have e : b = s1.heap.objs.size := by simpa using hb
    subst e
    exact I1.fpOk (Nat.le_refl _) (I1.hok.fresh (Nat.le_refl _))
  | @ref a n hn =>
    cases r1
    simp only [itSeq] at q
    split at q
    · rename_i ds hds
      obtain ⟨vs, e1, rs⟩ := hr1.lst hn hds
      obtain ⟨its, rv, p, hz⟩ := I1.list (SqL.of e1)
      refine wpAny_pyIter_list p.isList ?_
      refine ⟨s1.heap.objs.size, [s1.heap.objs.size], _, _, H1, rfl, I1.kept (t' := s1.toks) fun b o e => Heap.get?_push_of_some _ e, turn_list a _, ⟨_, Heap.get?_push_size _ rfl, rfl, rfl⟩, fun b hb => ?_, q m1 H1 _ .refl hr1 (wk_ref hn)⟩
      have e : b = s1.heap.objs.size := by simpa using hb
      subst e
      exact I1.fpOk (Nat.le_refl _) (I1.hok.fresh (Nat.le_refl _))
    · split at q
      · rename_i kvs hk
        obtain ⟨od, kws, e1, rk⟩ := hr1.at_ _ _ _ hn hk
        obtain ⟨hs, hgd, hx, es, ep, vs, hdt, hsz, kv, hm⟩ := I1.frzK e1
        refine iter_keys hs hgd hx hdt (pi_one (tk := s1.toks) I1 _ (turn_keys _ hdt) ⟨_, Heap.get?_push_size _ rfl, rfl, ?_⟩ (q m1 H1 _ .refl hr1 (by show Wk _ _ _ _ _ _ _; rw [rks_map (g := keyR) rk]; exact wk_keys e1)))
        rw [hsz] <;> rfl
      · rename_i kvs hk
        obtain ⟨od, kws, e1, rk⟩ := hr1.at_ _ _ _ hn hk
        obtain ⟨hs, hgd, hx, es, ep, hdt, hsz, ent⟩ := I1.frzT e1
        refine iter_keys hs hgd hx hdt (pi_one (tk := s1.toks) I1 _ (turn_keysT _ hdt) ⟨_, Heap.get?_push_size _ rfl, rfl, ?_⟩ (q m1 H1 _ .refl hr1 (by show Wk _ _ _ _ _ _ _; rw [rks_map (g := fun k => D.tup (k.map keyR)) rk]; exact wk_keysT e1)))
        rw [hsz] <;> rfl
      · exact q.elim
  | str z =>
    obtain ⟨t, rfl⟩ := r1
    have q' := q m1 H1 _ .refl hr1 (wk_str (z := z))
    cases ha : z.cps.all (· < 128)
    · exact wpAny_pyIter_wide ha (pi_one (tk := s1.toks) I1 _ (turn_str _ z t "str_iterator" (.inr rfl)) ⟨_, Heap.get?_push_size _ rfl, rfl, rfl⟩ q')
    · exact wpAny_pyIter_ascii ha (pi_one (tk := s1.toks) I1 _ (turn_str _ z t "str_ascii_iterator" (.inl rfl)) ⟨_, Heap.get?_push_size _ rfl, rfl, rfl⟩ q')
  | _ => exact q.elim
/-- the ints from lo on, n of them, by steps of c -/
def rngD (lo c : Int) (n : Nat) : List D := (List.range n).map fun (i : Nat) => D.int (lo + (i : Int) * c)
theorem wk_rng {lo : Int} {n : Nat} : Wk K ad (Itr lo n) (rngD lo 1 n) [] m H :=
  ⟨fun i m' s H' x hr _ hi => (by simpa [rngD] using hi : i < n),
   fun i m' s H' v H'' x hr _ hi y => by
    obtain ⟨rfl, rfl⟩ := y
    refine ⟨.int (lo + i), ?_, .refl, hr, .int _⟩
    unfold rngD at hi ⊢
    simp at hi
    rw [List.getElem?_map, List.getElem?_range hi]
    simp,
   fun m' s H' x hr _ => (by simp [rngD] : n ≤ (rngD lo 1 n).length)⟩
def itRng1 (ds : List D) (s : S) : R (List D × Gs) := match ds with
  | [.int n] => if n.natAbs ≤ 1000000000 then .ok (rngD 0 1 n.toNat, []) s else .no
  | _ => .no
def itRng2 (ds : List D) (s : S) : R (List D × Gs) := match ds with
  | [.int a, .int b] => if a.natAbs ≤ 1000000000 ∧ b.natAbs ≤ 1000000000 then .ok (rngD a 1 (b - a).toNat, []) s else .no
  | _ => .no
theorem _root_.L2.PI.imp {t t' : TI} (h : PI X tg e t) (k : ∀ σ H Q, t' σ H Q → t σ H Q) : PI X tg e t' := ⟨fun pins s σ H Q I q => h.run pins s σ H Q I (k _ _ _ q)⟩
theorem li_rng1 {fa : Env → S → R (List D)} (hg : Gl X "range") (hm : X.mg "range" = none) (ha : PA X [e] (LA X.K ad W fa)) (hs : noStar e = true) : PI X tg (.Call (.Name "range" p) [e] [] pos) (LI X.K ad W fun env s => (fa env s).bind itRng1) :=
  (pi_range1 hg hm ha (star_cons hs)).imp fun σ H R ⟨m, s, env, hr, er, h⟩ => ⟨m, s, env, hr, er, h.bind fun x s1 m1 H1 v _ x1 hr1 rv h1 => by
    unfold itRng1 at h1
    split at h1
    · split at h1
      · rename_i hc
        obtain ⟨w, rfl, b⟩ := vs1 rv
        cases b
        exact ⟨_, rfl, by omega, by omega, h1 m1 H1 _ .refl hr1 wk_rng⟩
      · exact h1.elim
    · exact h1.elim⟩
theorem li_rng2 {e2 : Expr} {fa : Env → S → R (List D)} (hg : Gl X "range") (hm : X.mg "range" = none) (ha : PA X [e, e2] (LA X.K ad W fa)) (hs : noStar e = true) (hs2 : noStar e2 = true) : PI X tg (.Call (.Name "range" p) [e, e2] [] pos) (LI X.K ad W fun env s => (fa env s).bind itRng2) :=
  (pi_range2 hg hm ha (by rw [star_cons hs, star_cons hs2]; rfl) (star_cons hs2)).imp fun σ H R ⟨m, s, env, hr, er, h⟩ => ⟨m, s, env, hr, er, h.bind fun x s1 m1 H1 v _ x1 hr1 rv h1 => by
    unfold itRng2 at h1
    split at h1
    · split at h1
      · rename_i hc
        obtain ⟨w, w2, rfl, b, b2⟩ := vs2 rv
        cases b; cases b2
        exact ⟨_, _, rfl, ⟨by omega, by omega, by omega, by omega⟩, h1 m1 H1 _ .refl hr1 wk_rng⟩
      · exact h1.elim
    · exact h1.elim⟩
def itRng3 (ds : List D) (s : S) : R (List D × Gs) := match ds with
  | [.int a, .int b, .int c] => if c ≠ 0 ∧ c.natAbs ≤ 1000000 ∧ Builtin.Range.small a b c = true ∧ 0 ≤ Builtin.Range.rangeSize a b c then .ok (rngD a c (Builtin.Range.rangeSize a b c).toNat, []) s else .no
  | _ => .no
theorem wk_rngC {lo c : Int} {n : Nat} : Wk K ad (Itc lo c n) (rngD lo c n) [] m H :=
  ⟨fun i m' s H' x hr _ hi => (by simpa [rngD] using hi : i < n),
   fun i m' s H' v H'' x hr _ hi y => by
    obtain ⟨rfl, rfl⟩ := y
    refine ⟨.int (lo + i * c), ?_, .refl, hr, .int _⟩
    unfold rngD at hi ⊢
    simp at hi
    rw [List.getElem?_map, List.getElem?_range hi]
    simp,
   fun m' s H' x hr _ => (by simp [rngD] : n ≤ (rngD lo c n).length)⟩
theorem li_rng3 {e2 e3 : Expr} {fa : Env → S → R (List D)} (hg : Gl X "range") (hm : X.mg "range" = none) (ha : PA X [e, e2, e3] (LA X.K ad W fa)) (hs : noStar e = true) (hs2 : noStars [e2, e3] = true) : PI X tg (.Call (.Name "range" p) [e, e2, e3] [] pos) (LI X.K ad W fun env s => (fa env s).bind itRng3) :=
  (pi_range3 hg hm ha (star_cons hs) (back_no hs2)).imp fun σ H R ⟨m, s, env, hr, er, h⟩ => ⟨m, s, env, hr, er, h.bind fun x s1 m1 H1 v _ x1 hr1 rv h1 => by
    unfold itRng3 at h1
    split at h1
    · split at h1
      · rename_i hc
        cases rv with
        | cons r1 rv => cases rv with
          | cons r2 rv => cases rv with
            | cons r3 rv =>
              cases rv; cases r1; cases r2; cases r3
              exact ⟨_, _, _, _, rfl, ⟨hc.1, by omega, hc.2.2.1, (Int.toNat_of_nonneg hc.2.2.2).symm⟩, h1 m1 H1 _ .refl hr1 wk_rngC⟩
      · exact h1.elim
    · exact h1.elim⟩
/-! list(range(..)) -/
theorem rds_rg {K : PySem.W.Frag} {m : List Addr} {H : Hp} {a : Int} : ∀ (l : List Nat), RDs K m H (l.map fun i => V.int (a + (i : Nat))) (l.map fun (i : Nat) => D.int (a + (i : Int) * 1))
  | [] => .nil
  | i :: l => by
    rw [List.map_cons, List.map_cons, Int.mul_one]
    exact .cons (.int _) (rds_rg l)
def lrgI (x y : D) (s : S) : Option (D × S) := match x, y with
  | .int a, .int b => if a.natAbs ≤ 1000000 ∧ b.natAbs ≤ 1000000 then some (.ref s.length, s ++ [.lst (rngD a 1 (b - a).toNat)]) else none
  | _, _ => none
theorem le_lrg1 {a : Expr} {p p2 pos2 : Pos} {fe : Env → S → R D} (hc : X.calm = true) (hg : Gl X "list") (hm : X.mg "list" = none) (hg2 : Gl X "range") (hm2 : X.mg "range" = none) (ha : PE X a (LE X.K ad W fe)) (hs : noStar a = true) :
    PE X (.Call (.Name "list" p) [.Call (.Name "range" p2) [a] [] pos2] [] pos) (LE X.K ad W fun env s => (fe env s).bind fun x s1 => R.of (lrgI (.int 0) x s1)) :=
  (pe_listRg hc hg hm (prg_1 hg2 hm2 ha (star_cons hs))).imp fun σ H Q ⟨m, s, env, hr, er, h⟩ => ⟨m, s, env, hr, er, h.bind fun x s1 m1 H1 v _ x1 hr1 rv h1 => by
    cases rv with
    | int i =>
      simp only [lrgI] at h1
      split at h1
      · rename_i hb
        exact ⟨_, rfl, ⟨by omega, by omega, by omega, by omega, by omega⟩, new_lst hr1 (rds_rg _) h1⟩
      · exact h1.elim
    | _ => exact h1.elim⟩
theorem le_lrg2 {a b : Expr} {p p2 pos2 : Pos} {fe fb : Env → S → R D} (hc : X.calm = true) (hg : Gl X "list") (hm : X.mg "list" = none) (hg2 : Gl X "range") (hm2 : X.mg "range" = none) (ha : PE X a (LE X.K ad W fe)) (hb : PE X b (LE X.K ad W fb)) (hs : noStar a = true) (hs2 : noStars [b] = true) :
    PE X (.Call (.Name "list" p) [.Call (.Name "range" p2) [a, b] [] pos2] [] pos) (LE X.K ad W fun env s => (fe env s).bind fun x s1 => (fb env s1).bind fun y s2 => R.of (lrgI x y s2)) :=
  (pe_listRg hc hg hm (prg_2 hg2 hm2 ha hb (star_cons hs) (star_cons (by simpa [noStars] using hs2)) (back_no hs2))).imp fun σ H Q ⟨m, s, env, hr, er, h⟩ => ⟨m, s, env, hr, er, h.bind fun x s1 m1 H1 v _ x1 hr1 rv h1 =>
    ⟨m1, s1, env, hr1, er.mono x1.toLe, h1.bind fun y s2 m2 H2 u _ x2 hr2 ru h2 => by
    cases rv with
    | int i => cases ru with
      | int j =>
        simp only [lrgI] at h2
        split at h2
        · rename_i hb
          exact ⟨_, _, rfl, rfl, ⟨by omega, by omega, by omega, by omega, by omega⟩, new_lst hr2 (rds_rg _) h2⟩
        · exact h2.elim
      | _ => exact h2.elim
    | _ => cases ru <;> exact h2.elim⟩⟩
/-- enumerate of a list -/
def enumD (i : Nat) : List D → List D
  | [] => []
  | d :: r => .tup [.int i, d] :: enumD (i + 1) r
theorem enumD_length : ∀ (i : Nat) (ds : List D), (enumD i ds).length = ds.length
  | _, [] => rfl
  | i, d :: r => by rw [enumD, List.length_cons, enumD_length, List.length_cons]
theorem enumD_get : ∀ (k : Nat) (ds : List D) (i : Nat) (d : D), ds[i]? = some d → (enumD k ds)[i]? = some (.tup [.int ((k + i : Nat) : Int), d])
  | k, [], i, d, h => by simp at h
  | k, x :: r, 0, d, h => by simp at h; subst h; simp [enumD]
  | k, x :: r, i + 1, d, h => by
    rw [enumD, List.getElem?_cons_succ, enumD_get (k + 1) r i d (by simpa using h)]
    have : k + 1 + i = k + (i + 1) := by omega
    rw [this]
end
/-! ### zip of lists and tuples in any mix -/
section
/-- a list (true) or a tuple that may be read -/
def SqK (K : PySem.W.Frag) (H : Hp) (l : Bool) (a : Addr) (xs : List V) : Prop := if l then SqL K H a xs else SqT K H a xs
def ItAt (h : Heap) (l : Bool) (it a : Addr) (i : Nat) : Prop := if l then h.IsListIter it a i else h.IsTupleIter it a i
def IsK (h : Heap) (l : Bool) (a : Addr) (its : Array Value) : Prop := if l then h.IsList a its else h.IsTuple a its
def ItzK (K : PySem.W.Frag) (l1 l2 : Bool) (a b : Addr) : It :=
  ⟨fun i H => ∃ (xs ys : List V) (x y : V), SqK K H l1 a xs ∧ SqK K H l2 b ys ∧ xs[i]? = some x ∧ ys[i]? = some y,
    fun i H v H' => ∃ T x y, v = .ref T ∧ H T = none ∧ H' = upd H T (.tup [x, y]) ∧ (∀ xs, SqK K H l1 a xs → xs[i]? = some x) ∧ ∀ ys, SqK K H l2 b ys → ys[i]? = some y,
    fun i H => ∃ xs ys : List V, SqK K H l1 a xs ∧ SqK K H l2 b ys ∧ i ≤ xs.length ∧ i ≤ ys.length ∧ (i = xs.length ∨ i = ys.length)⟩
variable {X : Cx} {pins : List (Addr × Obj)} {σ : L2.St} {H : Hp} {st : Shared}
theorem sqk_at (I : Inv X pins σ H st) {l : Bool} {a : Addr} {xs : List V} (h : SqK X.K H l a xs) : ∃ its : List Value, Vals xs its ∧ IsK st.heap l a its.toArray ∧ xs.length ≤ sizeLine := by
  cases l with
  | true => obtain ⟨its, rv, p, z⟩ := I.list h; exact ⟨its, rv, p.isList, z⟩
  | false => obtain ⟨its, rv, p, z⟩ := I.tuple h; exact ⟨its, rv, p, z⟩
theorem sqk_inj (I : Inv X pins σ H st) {l : Bool} {a : Addr} {xs ys : List V} (h : SqK X.K H l a xs) (h' : SqK X.K H l a ys) : xs = ys := by
  cases l with
  | true => exact I.list_inj h h'
  | false => exact I.tuple_inj h h'
theorem drawsK {prog : Program} {w : World} {A : Around} (hh : A.handled = none) (l : Bool) (it a : Addr) (hne : a ≠ it) (items : Array Value) :
    Draws prog w A it [it, a] items.size (fun i v => items[i]? = some v) (fun i h => ItAt h l it a i ∧ IsK h l a items) := by
  cases l with
  | true => exact Draws.list hh it a hne items
  | false => exact Draws.tuple hh it a hne items
theorem isK_lt {h : Heap} {l : Bool} {a : Addr} {its : Array Value} (x : IsK h l a its) : a < h.objs.size := by
  cases l with
  | true => obtain ⟨o, e, _⟩ := x; exact Heap.lt_size e
  | false => obtain ⟨o, e, _⟩ := x; exact Heap.lt_size e
theorem itAt_keep {h h' : Heap} {l : Bool} {it a : Addr} {i : Nat} (x : ItAt h l it a i) (k : ∀ o, h.get? it = some o → h'.get? it = some o) : ItAt h' l it a i := by
  cases l with
  | true => exact Heap.IsListIter.at x k
  | false => exact Heap.IsTupleIter.at x k
theorem itAt_obj {h : Heap} {l : Bool} {it a : Addr} {i : Nat} (x : ItAt h l it a i) : ∃ o, h.get? it = some o ∧ ∀ v, o.data ≠ .cell v := by
  cases l with
  | true => obtain ⟨o, e, _, d⟩ := x; exact ⟨o, e, fun v q => by rw [d] at q; cases q⟩
  | false => obtain ⟨o, e, _, d⟩ := x; exact ⟨o, e, fun v q => by rw [d] at q; cases q⟩
/-- the five cells of a zip lie apart from one another and from what is walked -/
structure ZApart (z TI TO i1 i2 a b : Addr) : Prop where
  TIz : TI ≠ z
  TOz : TO ≠ z
  TITO : TI ≠ TO
  TIi1 : TI ≠ i1
  TIi2 : TI ≠ i2
  zi1 : z ≠ i1
  zi2 : z ≠ i2
  Ti1 : TO ≠ i1
  Ti2 : TO ≠ i2
  i12 : i1 ≠ i2
  za : z ≠ a
  zb : z ≠ b
  Ta : TO ≠ a
  Tb : TO ≠ b
  i1a : a ≠ i1
  i2b : b ≠ i2
  i1b : i1 ≠ b
  i2a : i2 ≠ a
theorem ZApart.sep {z TI TO i1 i2 a b : Addr} (D : ZApart z TI TO i1 i2 a b) : ZipSep2 z TI TO i1 i2 [i1, a] [i2, b] :=
  ⟨D.TIz, D.TOz, D.TITO, D.TIi1, by simp, by simp [D.zi1, D.za], by simp [D.Ti1, D.Ta], D.TIi2, by simp, by simp [D.zi2, D.zb], by simp [D.Ti2, D.Tb], by simp [D.i12, D.i1b], by simp [D.i12.symm, D.i2a]⟩
theorem turn_zipK {P : Program} {w : World} {K : PySem.W.Frag} {elts : List Expr} {kk : Nat} {tpos : Pos} {l1 l2 : Bool} {a b z TI TO i1 i2 : Addr} (D : ZApart z TI TO i1 i2 a b) :
    Turn P w K (.Tuple elts kk tpos) (ItzK K l1 l2 a b) [z, TI, TO, i1, i2] z (fun i h => IsZip h z TI TO .none ∧ IsTupOf2 h TI (.ref i1) (.ref i2) ∧ (∃ x y, IsTupOf2 h TO x y) ∧ ItAt h l1 i1 a i ∧ ItAt h l2 i2 b i) where
  mem := by simp
  obj := fun i h st c hc => by
    obtain ⟨hz, hTI, ⟨x, y, hTO⟩, h1, h2⟩ := st
    have e' : c = z ∨ c = TI ∨ c = TO ∨ c = i1 ∨ c = i2 := by simpa using hc
    rcases e' with q | q | q | q | q
    · rw [q]; exact ⟨_, hz, fun v q => nomatch q⟩
    · rw [q]; exact ⟨_, hTI, fun v q => nomatch q⟩
    · rw [q]; exact ⟨_, hTO, fun v q => nomatch q⟩
    · rw [q]; exact itAt_obj h1
    · rw [q]; exact itAt_obj h2
  keep := fun i h h' st k => by
    obtain ⟨hz, hTI, ⟨x, y, hTO⟩, h1, h2⟩ := st
    exact ⟨k z (by simp) _ hz, k TI (by simp) _ hTI, ⟨x, y, k TO (by simp) _ hTO⟩, itAt_keep h1 fun o q => k i1 (by simp) o q, itAt_keep h2 fun o q => k i2 (by simp) o q⟩
  item := by
    intro X hP hw hK hc i pins s σ H E I hf st hg
    subst hP hw hK
    obtain ⟨hz, hTI, ⟨x0, y0, hTO⟩, h1, h2⟩ := st
    obtain ⟨xs, ys, x, y, hqx, hqy, hx, hy⟩ := hg
    obtain ⟨its, rv, p, _⟩ := sqk_at I hqx
    obtain ⟨its2, rv2, p2, _⟩ := sqk_at I hqy
    have hzl : z < s.heap.objs.size := Heap.lt_size hz
    have hh : X.A.in1.handled = none := I.ok.hd hc
    have c1 : i < its.toArray.size := by rw [List.size_toArray, ← rv.length]; exact (List.getElem?_eq_some_iff.mp hx).1
    have c2 : i < its2.toArray.size := by rw [List.size_toArray, ← rv2.length]; exact (List.getElem?_eq_some_iff.mp hy).1
    refine wpAny_pyNext_zipD2_item D.sep (drawsK hh l1 i1 a D.i1a its.toArray) (drawsK hh l2 i2 b D.i2b its2.toArray) hz hTI hTO ⟨h1, p⟩ ⟨h2, p2⟩ c1 c2 fun u u2 h' tk hu hu2 z' TO' h1' h2' hT hsz hk => ?_
    obtain ⟨u', hu', ru⟩ := rv.get hx
    obtain ⟨u2', hu2', ru2⟩ := rv2.get hy
    have e1 : u' = u := by simpa [hu'] using hu
    have e2 : u2' = u2 := by simpa [hu2'] using hu2
    subst e1 e2
    refine ⟨_, rfl, wpAny_letOwnedTupleGo_zip (s := { s with heap := h', toks := tk }) z' fun h'' z'' sb => ?_⟩
    have hT2 : h''.get? s.heap.objs.size = some { cls := .type "tuple", data := .seq #[u', u2'] } := (sb.2 _ (Nat.ne_of_gt hzl)).trans hT
    have new : ObjOk X.prog X.w (upd H s.heap.objs.size (.tup [x, y])) h'' s.heap.objs.size (.tup [x, y]) :=
      ⟨by show 2 ≤ sizeLine; decide, [u', u2'], .cons ru (.cons ru2 .nil), ⟨_, hT2, rfl, _, rfl⟩⟩
    have I1 : Inv X pins σ (upd H s.heap.objs.size (.tup [x, y])) { s with heap := h'', toks := tk } :=
      I.turnedNew (t' := tk) (ch := [z, TI, TO, i1, i2]) (fun c o hb q => (sb.2 c (fun q' => hb (by simp [q']))).trans (hk c o (fun q' => hb (by simp [q'])) (fun q' => hb (by simp [q'])) (fun q' => hb (by simp [q'])) (fun q' => hb (by simp [q'])) q)) hf (Nat.le_refl _) new
    refine ⟨.ref s.heap.objs.size, _, I1, rfl, ⟨_, x, y, rfl, I.hok.fresh (Nat.le_refl _), rfl, fun l hl => by rw [sqk_inj I hl hqx]; exact hx, fun l hl => by rw [sqk_inj I hl hqy]; exact hy⟩, ⟨z'', ?_, ⟨u', u2', ?_⟩, ?_, ?_⟩, fun c hcm => ?_⟩
    · exact (sb.2 _ D.TIz).trans (hk _ _ D.TIz D.TITO D.TIi1 D.TIi2 hTI)
    · exact (sb.2 _ D.TOz).trans TO'
    · exact itAt_keep h1'.1 fun o q => (sb.2 _ D.zi1.symm).trans q
    · exact itAt_keep h2'.1 fun o q => (sb.2 _ D.zi2.symm).trans q
    · have hlt : c < s.heap.objs.size := by
        have e' : c = z ∨ c = TI ∨ c = TO ∨ c = i1 ∨ c = i2 := by simpa using hcm
        rcases e' with q | q | q | q | q
        · rw [q]; exact hzl
        · rw [q]; exact Heap.lt_size hTI
        · rw [q]; exact Heap.lt_size hTO
        · rw [q]; obtain ⟨_, e1, _⟩ := itAt_obj h1; exact Heap.lt_size e1
        · rw [q]; obtain ⟨_, e2, _⟩ := itAt_obj h2; exact Heap.lt_size e2
      rw [upd_ne (Nat.ne_of_lt hlt)]
      exact (hf c hcm).1
  done := by
    intro X hP hw hK hc i pins s σ H E I hf st hg
    subst hP hw hK
    obtain ⟨hz, hTI, ⟨x0, y0, hTO⟩, h1, h2⟩ := st
    obtain ⟨xs, ys, hqx, hqy, hx1, hy1, hend⟩ := hg
    obtain ⟨its, rv, p, _⟩ := sqk_at I hqx
    obtain ⟨its2, rv2, p2, _⟩ := sqk_at I hqy
    have hh : X.A.in1.handled = none := I.ok.hd hc
    have l1e : its.toArray.size = xs.length := by rw [List.size_toArray, ← rv.length]
    have l2e : its2.toArray.size = ys.length := by rw [List.size_toArray, ← rv2.length]
    exact wpAny_pyNext_zipD2_end D.sep (drawsK hh l1 i1 a D.i1a its.toArray) (drawsK hh l2 i2 b D.i2b its2.toArray) hz hTI hTO ⟨h1, p⟩ ⟨h2, p2⟩ (by omega) (by omega) (by omega) fun h' tk hk => ⟨rfl, I.turnedL (t' := tk) (ch := [z, TI, TO, i1, i2]) (fun c o hb q =>
      hk c o (fun q' => hb (by simp [q'])) (fun q' => hb (by simp [q'])) (fun q' => hb (by simp [q'])) (fun q' => hb (by simp [q'])) q) hf⟩
  self := fun A i s Q E st h => wpAny_pyIter_zip st.1 h
theorem begK {l : Bool} {a : Addr} {its : Array Value} : ∃ o, Begins (.ref a) o (fun h => IsK h l a its) ∧ ∀ (h : Heap) (it : Addr), h.get? it = some o → ItAt h l it a 0 := by
  cases l with
  | true => exact ⟨_, begins_list a its, fun h it e => ⟨_, e, rfl, rfl⟩⟩
  | false => exact ⟨_, begins_tuple a its, fun h it e => ⟨_, e, rfl, rfl⟩⟩
def iZipK (K : PySem.W.Frag) (ta : TA) : TI := fun σ H R => ta σ H fun vs H1 => ∃ l1 l2 a b xs ys, vs = [.ref a, .ref b] ∧ SqK K H1 l1 a xs ∧ SqK K H1 l2 b ys ∧ R (ItzK K l1 l2 a b) H1
theorem pi_zipK {X : Cx} {e e2 : Expr} {ta : TA} {p pos tpos : Pos} {elts : List Expr} {kk : Nat} (hg : Gl X "zip") (hm : X.mg "zip" = none) (ha : PA X [e, e2] ta)
    (hs : starEach [e, e2] X.env = (false, eval e X.env) :: starEach [e2] X.env) (hpl : (backTo pos (starEach [e2] X.env)).any (·.1) = false) :
    PI X (.Tuple elts kk tpos) (.Call (.Name "zip" p) [e, e2] [] pos) (iZipK X.K ta) := by
  refine ⟨fun pins s σ H R I h => ?_⟩
  refine Call_ (ld_blt I hg hm PyProof.Rows.boot_zip (PyProof.Rows.callWith_type1 (thn (ha.run pos pins s σ H _ I h) fun us s1 ⟨vs, H1, I1, r1, q1⟩ => ?_) hs hpl))
  obtain ⟨l1, l2, a, b, xs, ys, ex, hqx, hqy, q⟩ := q1
  subst ex
  cases r1 with
  | cons r rr =>
    cases rr with
    | cons r' rr =>
      cases rr
      cases r
      cases r'
      have fresh5 : ∀ c, c ∈ [s1.heap.objs.size + 4, s1.heap.objs.size + 2, s1.heap.objs.size + 3, s1.heap.objs.size, s1.heap.objs.size + 1] → FpOk X pins H1 c := fun c hcm => by
        have e' : c = s1.heap.objs.size + 4 ∨ c = s1.heap.objs.size + 2 ∨ c = s1.heap.objs.size + 3 ∨ c = s1.heap.objs.size ∨ c = s1.heap.objs.size + 1 := by simpa using hcm
        have hle : s1.heap.objs.size ≤ c := by
          rcases e' with z | z | z | z | z
          · rw [z]; exact Nat.le_add_right _ _
          · rw [z]; exact Nat.le_add_right _ _
          · rw [z]; exact Nat.le_add_right _ _
          · rw [z]; exact Nat.le_refl _
          · rw [z]; exact Nat.le_add_right _ _
        exact I1.fpOk hle (I1.hok.fresh hle)
      obtain ⟨its, rv, p1, _⟩ := sqk_at I1 hqx
      obtain ⟨its2, rv2, p2, _⟩ := sqk_at I1 hqy
      obtain ⟨o1, B1, k1⟩ := begK (l := l1) (a := a) (its := its.toArray)
      obtain ⟨o2, B2, k2⟩ := begK (l := l2) (a := b) (its := its2.toArray)
      have la := isK_lt p1
      have lb := isK_lt p2
      refine zip_begins2 B1 B2 p1 p2 fun h' hz hTI hTO h1 h2 hsz hk => wpAny_pyIter_zip hz ?_
      have I2 : Inv X pins σ H1 { s1 with heap := h' } := I1.kept (t' := s1.toks) hk
      refine ⟨s1.heap.objs.size + 4, [s1.heap.objs.size + 4, s1.heap.objs.size + 2, s1.heap.objs.size + 3, s1.heap.objs.size, s1.heap.objs.size + 1], _, _, H1, rfl, I2, turn_zipK (l1 := l1) (l2 := l2) (a := a) (b := b) ?_, ⟨hz, hTI, ⟨_, _, hTO⟩, k1 _ _ h1, k2 _ _ h2⟩, fresh5, q⟩
      have la : a < s1.heap.objs.size := la
      have lb : b < s1.heap.objs.size := lb
      have na : ∀ k : Nat, s1.heap.objs.size + k ≠ a := fun k => Nat.ne_of_gt (Nat.lt_of_lt_of_le la (Nat.le_add_right _ _))
      have nb : ∀ k : Nat, s1.heap.objs.size + k ≠ b := fun k => Nat.ne_of_gt (Nat.lt_of_lt_of_le lb (Nat.le_add_right _ _))
      have nk : ∀ j k : Nat, j ≠ k → s1.heap.objs.size + j ≠ s1.heap.objs.size + k := fun j k h e => h (Nat.add_left_cancel e)
      exact ⟨nk 2 4 (by decide), nk 3 4 (by decide), nk 2 3 (by decide), nk 2 0 (by decide), nk 2 1 (by decide), nk 4 0 (by decide), nk 4 1 (by decide), nk 3 0 (by decide), nk 3 1 (by decide), nk 0 1 (by decide), na 4, nb 4, na 3, nb 3, (na 0).symm, (nb 1).symm, nb 0, na 1⟩
/-! enumerate of a list or a tuple -/
set_option maxHeartbeats 1000000 in
theorem meetsE1 {u : Value} {ob : Obj} {P : Heap → Prop} (B : Begins u ob P) : Meets (Builtin.«enumerate.__new__» ⟨[.type "enumerate", u], []⟩) (fun _ R t => P t.heap ∧
    R (.ok (.ret (.ref (t.heap.push ob).objs.size))) { t with heap := (t.heap.push ob).push { cls := .type "enumerate", data := .fields #[.none, .bool false, .ref t.heap.objs.size, rawInt 0, .none, .none] } }) :=
  .of_wp fun prg wd A R t hh => by
    obtain ⟨hp9, g9, d9, tk9, os9⟩ := t
    obtain ⟨hb, hh⟩ := hh
    have sub9 := sub_enumerate
    have qq : ∀ {A' : Around} {E' : Value → Shared → Prop} {Q' : Value → Shared → Prop}, Q' (.ref hp9.objs.size) ⟨hp9.push ob, g9, d9, tk9, os9⟩ → wpAny (model prg wd) A' (pyIter u) Q' E' ⟨hp9, g9, d9, tk9, os9⟩ := fun z => B.iter prg wd _ _ ⟨hp9, g9, d9, tk9, os9⟩ _ hb z
    wp_walk using qq
    refine wpAny_stack_any fun _ => wpAny_pure ?_
    split
    · rename_i cl _ _ _ _ _
      cases (cl == Value.type "enumerate") <;> (wp_walk using qq) <;> exact ⟨_, rfl, hh⟩
    · wp_walk using qq
      exact ⟨_, rfl, hh⟩
theorem enum1_begins {prg : Program} {wd : World} {A : Around} {E : Value → Shared → Prop} {t : Shared} {u : Value} {ob : Obj} {P : Heap → Prop} {Q : Value → Shared → Prop} (B : Begins u ob P) (hb : P t.heap)
    (hq : ∀ h9, IsEnum h9 (t.heap.objs.size + 1) t.heap.objs.size 0 .none → h9.get? t.heap.objs.size = some ob → h9.objs.size = t.heap.objs.size + 2 → (∀ c o, t.heap.get? c = some o → h9.get? c = some o) → Q (.ref (t.heap.objs.size + 1)) { t with heap := h9 }) :
    wpAny (model prg wd) A (call (.type "enumerate") [u]) Q E t := by
  refine callType_new F.called_enumerate (by decide) (F.typeCall_enumerate_1 _) (F.newCall_enumerate_1 _) (fun ob => F.args_object_init_2 ob _) F.entry_enumerate_new (meetsE1 B) ⟨hb, ?_⟩
  have sz : (t.heap.push ob).objs.size = t.heap.objs.size + 1 := Heap.size_push ..
  show _ ∧ _
  rw [sz]
  have ie : IsEnum ((t.heap.push ob).push { cls := .type "enumerate", data := .fields #[.none, .bool false, .ref t.heap.objs.size, rawInt 0, .none, .none] }) (t.heap.objs.size + 1) t.heap.objs.size 0 .none := by
    have e9 := Heap.get?_push_size (t.heap.push ob) (o := { cls := .type "enumerate", data := .fields #[.none, .bool false, .ref t.heap.objs.size, rawInt 0, .none, .none] }) rfl
    rw [sz] at e9; exact e9
  exact ⟨⟨_, ie, rfl⟩, hq _ ie (Heap.get?_push_of_some _ (Heap.get?_push_size _ B.free)) (by rw [Heap.size_push, sz]) fun c o q => Heap.get?_push_of_some _ (Heap.get?_push_of_some _ q)⟩
def IteK (K : PySem.W.Frag) (l : Bool) (a : Addr) : It :=
  ⟨fun i H => ∃ (xs : List V) (x : V), SqK K H l a xs ∧ xs[i]? = some x,
    fun i H v H' => ∃ T x, v = .ref T ∧ H T = none ∧ H' = upd H T (.tup [.int (i : Nat), x]) ∧ ∀ xs, SqK K H l a xs → xs[i]? = some x,
    fun i H => ∃ xs : List V, SqK K H l a xs ∧ i = xs.length⟩
theorem turn_enumK {P : Program} {w : World} {K : PySem.W.Frag} {elts : List Expr} {kk : Nat} {tpos : Pos} {l : Bool} {a e it : Addr} (h1 : e ≠ it) (h2 : e ≠ a) (h3 : a ≠ it) :
    Turn P w K (.Tuple elts kk tpos) (IteK K l a) [e, it] e (fun i h => (∃ old, IsEnum h e it ((i : Nat) : Int) old) ∧ ItAt h l it a i) where
  mem := by simp
  obj := fun i h st c hc => by
    obtain ⟨⟨old, he⟩, hi⟩ := st
    have e' : c = e ∨ c = it := by simpa using hc
    rcases e' with z | z
    · rw [z]; exact ⟨_, he, fun v q => nomatch q⟩
    · rw [z]; exact itAt_obj hi
  keep := fun i h h' st k => by
    obtain ⟨⟨old, he⟩, hi⟩ := st
    exact ⟨⟨old, k e (by simp) _ he⟩, itAt_keep hi fun o q => k it (by simp) o q⟩
  item := by
    intro X hP hw hK hc i pins s σ H E I hf st hg
    subst hP hw hK
    obtain ⟨⟨old, he⟩, hit⟩ := st
    obtain ⟨xs, x, hqx, hx⟩ := hg
    obtain ⟨its, rv, p, _⟩ := sqk_at I hqx
    have hel : e < s.heap.objs.size := Heap.lt_size he
    have hh : X.A.in1.handled = none := I.ok.hd hc
    have c1 : i < its.toArray.size := by rw [List.size_toArray, ← rv.length]; exact (List.getElem?_eq_some_iff.mp hx).1
    refine wpAny_pyNext_enum_itemD (drawsK hh l it a h3 its.toArray) he ⟨hit, p⟩ c1 h1 (by simp [h1, h2]) fun u h' tk hu ho hit' hT hsz hk => ?_
    obtain ⟨u', hu', ru⟩ := rv.get hx
    have e1 : u' = u := by simpa [hu'] using hu
    subst e1
    refine ⟨_, rfl, wpAny_letOwnedTupleGo_enum (s := { s with heap := h', toks := tk + 1 }) ho fun h'' he' sb => ?_⟩
    have hT2 : h''.get? s.heap.objs.size = some { cls := .type "tuple", data := .seq #[.int i tk, u'] } := (sb.2 _ (Nat.ne_of_gt hel)).trans hT
    have new : ObjOk X.prog X.w (upd H s.heap.objs.size (.tup [.int (i : Nat), x])) h'' s.heap.objs.size (.tup [.int (i : Nat), x]) :=
      ⟨by show 2 ≤ sizeLine; decide, [.int i tk, u'], .cons ⟨_, rfl⟩ (.cons ru .nil), ⟨_, hT2, rfl, _, rfl⟩⟩
    have I1 : Inv X pins σ (upd H s.heap.objs.size (.tup [.int (i : Nat), x])) { s with heap := h'', toks := tk + 1 } :=
      I.turnedNew (t' := tk + 1) (ch := [e, it]) (fun c o hb q => (sb.2 c (fun q' => hb (by simp [q']))).trans (hk c o (fun q' => hb (by simp [q'])) (fun q' => hb (by simp [q'])) q)) hf (Nat.le_refl _) new
    refine ⟨.ref s.heap.objs.size, _, I1, rfl, ⟨_, x, rfl, I.hok.fresh (Nat.le_refl _), rfl, fun y hy => by rw [sqk_inj I hy hqx]; exact hx⟩, ⟨⟨u', ?_⟩, itAt_keep hit'.1 fun o q => (sb.2 it h1.symm).trans q⟩, fun c hcm => ?_⟩
    · have e9 : ((i + 1 : Nat) : Int) = (i : Int) + 1 := by omega
      rw [e9]; exact he'
    · have hlt : c < s.heap.objs.size := by
        have e' : c = e ∨ c = it := by simpa using hcm
        rcases e' with q | q
        · rw [q]; exact hel
        · rw [q]; obtain ⟨_, z, _⟩ := itAt_obj hit; exact Heap.lt_size z
      rw [upd_ne (Nat.ne_of_lt hlt)]
      exact (hf c hcm).1
  done := by
    intro X hP hw hK hc i pins s σ H E I hf st hg
    subst hP hw hK
    obtain ⟨⟨old, he⟩, hit⟩ := st
    obtain ⟨xs, hqx, hi⟩ := hg
    obtain ⟨its, rv, p, _⟩ := sqk_at I hqx
    have hh : X.A.in1.handled = none := I.ok.hd hc
    have l1e : its.toArray.size = xs.length := by rw [List.size_toArray, ← rv.length]
    have D := drawsK (prog := X.prog) (w := X.w) hh l it a h3 its.toArray
    have hst : ItAt s.heap l it a its.toArray.size := by rw [l1e, ← hi]; exact hit
    exact wpAny_pyNext_enum_endD D he ⟨hst, p⟩ fun h' eb => ⟨rfl, I.turnedL (t' := s.toks) (ch := [e, it]) (fun c o hb q => eb c o (fun q' => hb (by simp [q'])) q) hf⟩
  self := fun A i s Q E st h => let ⟨⟨_, he⟩, _⟩ := st; wpAny_pyIter_enum he h
def iEnumK (K : PySem.W.Frag) (ta : TA) : TI := fun σ H R => ta σ H fun vs H1 => ∃ l a xs, vs = [.ref a] ∧ SqK K H1 l a xs ∧ R (IteK K l a) H1
theorem pi_enumK {X : Cx} {e : Expr} {ta : TA} {p pos tpos : Pos} {elts : List Expr} {kk : Nat} (hg : Gl X "enumerate") (hm : X.mg "enumerate" = none) (ha : PA X [e] ta) (hs : starEach [e] X.env = [(false, eval e X.env)]) :
    PI X (.Tuple elts kk tpos) (.Call (.Name "enumerate" p) [e] [] pos) (iEnumK X.K ta) := by
  refine ⟨fun pins s σ H R I h => ?_⟩
  refine Call_ (ld_blt I hg hm boot_enumerate (PyProof.Rows.callWith_type1 (thn (ha.run pos pins s σ H _ I h) fun us s1 ⟨vs, H1, I1, r1, q1⟩ => ?_) hs rfl))
  obtain ⟨l, a, xs, ex, hqx, q⟩ := q1
  subst ex
  cases r1 with
  | cons r rr =>
    cases rr
    cases r
    obtain ⟨its, rv, p1, _⟩ := sqk_at I1 hqx
    obtain ⟨o1, B1, k1⟩ := begK (l := l) (a := a) (its := its.toArray)
    have la := isK_lt p1
    refine enum1_begins B1 p1 fun h' he ho hsz hk => wpAny_pyIter_enum he ?_
    have I2 : Inv X pins σ H1 { s1 with heap := h' } := I1.kept (t' := s1.toks) hk
    have la : a < s1.heap.objs.size := la
    refine ⟨s1.heap.objs.size + 1, [s1.heap.objs.size + 1, s1.heap.objs.size], _, _, H1, rfl, I2, turn_enumK (l := l) (a := a) (e := s1.heap.objs.size + 1) (it := s1.heap.objs.size) (Nat.succ_ne_self _) (Nat.ne_of_gt (Nat.lt_of_lt_of_le la (Nat.le_add_right _ _))) (Nat.ne_of_lt la), ⟨⟨.none, he⟩, k1 _ _ ho⟩, fun c hcm => ?_, q⟩
    have e' : c = s1.heap.objs.size + 1 ∨ c = s1.heap.objs.size := by simpa using hcm
    have hle : s1.heap.objs.size ≤ c := by
      rcases e' with z | z
      · rw [z]; exact Nat.le_add_right _ _
      · rw [z]; exact Nat.le_refl _
    exact I1.fpOk hle (I1.hok.fresh hle)
def itEnum (ds : List D) (s : S) : R (List D × Gs) := match ds with
  | [.tup xs] => .ok (enumD 0 xs, []) s
  | [.rol xs] => .ok (enumD 0 xs, []) s
  | [.ref n] => match lsAt s n with
    | some xs => .ok (enumD 0 xs, [(n, xs)]) s
    | none => .no
  | _ => .no
theorem wk_enum {K : PySem.W.Frag} {ad : Ad} {m : List Addr} {H : Hp} {l : Bool} {a : Addr} {ds : List D} {gs : Gs} (at_ : ∀ m' s H', Ext K m H m' H' → HR K ad.ca m' s H' → Grd gs s → ∃ vs, SqK K H' l a vs ∧ RDs K m' H' vs ds) : Wk K ad (IteK K l a) (enumD 0 ds) gs m H := by
  refine ⟨fun i m' s H' x hr g hi => ?_, fun i m' s H' v H'' x hr g hi y => ?_, fun m' s H' x hr g => ?_⟩
  · obtain ⟨vs, q, r⟩ := at_ _ _ _ x hr g
    rw [enumD_length] at hi
    exact ⟨vs, vs[i]'(by rw [r.length]; exact hi), q, by simp [r.length, hi]⟩
  · obtain ⟨vs, q, r⟩ := at_ _ _ _ x hr g
    obtain ⟨Ta, z, rfl, hT, rfl, hy⟩ := y
    obtain ⟨d, h1, h2⟩ := r.getV (hy vs q)
    obtain ⟨hr2, x2⟩ := hr.free (u := .tup [.int (i : Nat), z]) hT
    refine ⟨_, enumD_get 0 ds i d h1, x2, hr2, .tup (.inl (.inl upd_same)) (.cons ?_ (.cons (h2.mono x2.toLe) .nil))⟩
    rw [Nat.zero_add]
    exact .int _
  · obtain ⟨vs, q, r⟩ := at_ _ _ _ x hr g
    exact ⟨vs, q, by rw [enumD_length, r.length]⟩
theorem li_enum {ad : Ad} {W : WX} {e : Expr} {p pos : Pos} {elts : List Expr} {kk : Nat} {tpos : Pos} {fa : Env → S → R (List D)} (hg : Gl X "enumerate") (hm : X.mg "enumerate" = none) (ha : PA X [e] (LA X.K ad W fa)) (hs : noStar e = true) :
    PI X (.Tuple elts kk tpos) (.Call (.Name "enumerate" p) [e] [] pos) (LI X.K ad W fun env s => (fa env s).bind itEnum) :=
  (pi_enumK hg hm ha (star_cons hs)).imp fun σ H R ⟨m, s, env, hr, er, h⟩ => ⟨m, s, env, hr, er, h.bind fun x s1 m1 H1 v _ x1 hr1 rv h1 => by
    unfold itEnum at h1
    split at h1
    · obtain ⟨w, rfl, b⟩ := vs1 rv
      cases b with
      | tup q rs => exact ⟨false, _, _, rfl, q, h1 m1 H1 _ .refl hr1 (wk_enum fun m' s' H' x hr g => ⟨_, x.tup _ _ q, rs.mono x.toLe⟩)⟩
    · obtain ⟨w, rfl, b⟩ := vs1 rv
      cases b with
      | rol q rs => exact ⟨true, _, _, rfl, q.sql, h1 m1 H1 _ .refl hr1 (wk_enum fun m' s' H' x hr g => ⟨_, (x.rol _ _ q).sql, rs.mono x.toLe⟩)⟩
    · rename_i n s1
      obtain ⟨w, rfl, b⟩ := vs1 rv
      cases b with
      | @ref a _ hn =>
        split at h1
        · rename_i xs hx
          obtain ⟨vs, e1, rs⟩ := hr1.lst hn hx
          refine ⟨true, a, vs, rfl, SqL.of e1, h1 m1 H1 _ .refl hr1 (wk_enum (l := true) fun m' s' H' x hr g => ?_)⟩
          obtain ⟨vs', e, r⟩ := hr.lst (x.pre _ _ hn) (g (n, xs) (by simp))
          exact ⟨vs', SqL.of e, r⟩
        · exact h1.elim
    · exact h1.elim⟩
def zipD : List D → List D → List D
  | a :: r, b :: q => .tup [a, b] :: zipD r q
  | _, _ => []
theorem zipD_length : ∀ (xs ys : List D), (zipD xs ys).length = min xs.length ys.length
  | [], _ => by simp [zipD]
  | _ :: _, [] => by simp [zipD]
  | a :: r, b :: q => by simp [zipD, zipD_length r q]
theorem zipD_get : ∀ (xs ys : List D) (i : Nat) (d e : D), xs[i]? = some d → ys[i]? = some e → (zipD xs ys)[i]? = some (.tup [d, e])
  | [], _, _, _, _, h, _ => by simp at h
  | _ :: _, [], _, _, _, _, h => by simp at h
  | a :: r, b :: q, 0, d, e, h, h' => by simp at h h'; subst h h'; rfl
  | a :: r, b :: q, i + 1, d, e, h, h' => by rw [zipD, List.getElem?_cons_succ]; exact zipD_get r q i d e (by simpa using h) (by simpa using h')
def zsrc (s : S) : D → Option (List D × Gs)
  | .tup ds => some (ds, [])
  | .rol ds => some (ds, [])
  | .ref n => match lsAt s n with
    | some ds => some (ds, [(n, ds)])
    | none => none
  | _ => none
def itZip (ds : List D) (s : S) : R (List D × Gs) := match ds with
  | [a, b] => match zsrc s a, zsrc s b with
    | some (xs, g1), some (ys, g2) => .ok (zipD xs ys, g1 ++ g2) s
    | _, _ => .no
  | _ => .no
theorem zsrc_at {K : PySem.W.Frag} {ad : Ad} {m : List Addr} {s : S} {H : Hp} {v : V} {d : D} {xs : List D} {g : Gs} (hr : HR K ad.ca m s H) (r : RD K m H v d) (h : zsrc s d = some (xs, g)) :
    ∃ l a, v = .ref a ∧ (∃ vs, SqK K H l a vs) ∧ ∀ m' s' H', Ext K m H m' H' → HR K ad.ca m' s' H' → Grd g s' → ∃ vs, SqK K H' l a vs ∧ RDs K m' H' vs xs := by
  cases r with
  | tup q rs => cases h; exact ⟨false, _, rfl, ⟨_, q⟩, fun m' s' H' x _ _ => ⟨_, x.tup _ _ q, rs.mono x.toLe⟩⟩
  | rol q rs => cases h; exact ⟨true, _, rfl, ⟨_, q.sql⟩, fun m' s' H' x _ _ => ⟨_, (x.rol _ _ q).sql, rs.mono x.toLe⟩⟩
  | @ref a n hn =>
    simp only [zsrc] at h
    split at h
    · rename_i ds hds
      cases h
      obtain ⟨vs, e1, rs⟩ := hr.lst hn hds
      refine ⟨true, a, rfl, ⟨vs, SqL.of e1⟩, fun m' s' H' x hr' gd => ?_⟩
      obtain ⟨vs', e, r⟩ := hr'.lst (x.pre _ _ hn) (gd (n, xs) (by simp))
      exact ⟨vs', SqL.of e, r⟩
    · cases h
  | _ => cases h
theorem li_zip {ad : Ad} {W : WX} {e e2 : Expr} {elts : List Expr} {kk : Nat} {p pos tpos : Pos} {fa : Env → S → R (List D)} (hg : Gl X "zip") (hm : X.mg "zip" = none) (ha : PA X [e, e2] (LA X.K ad W fa)) (hs : noStars [e, e2] = true) :
    PI X (.Tuple elts kk tpos) (.Call (.Name "zip" p) [e, e2] [] pos) (LI X.K ad W fun env s => (fa env s).bind itZip) := by
  have h1 : noStar e = true ∧ noStars [e2] = true := by
    unfold noStars at hs ⊢
    rw [List.all_cons, Bool.and_eq_true] at hs
    exact hs
  refine (pi_zipK hg hm ha (star_cons h1.1) (back_no h1.2)).imp fun σ H R ⟨m, s, env, hr, er, h⟩ => ⟨m, s, env, hr, er, h.bind fun x s1 m1 H1 v _ x1 hr1 rv h1 => ?_⟩
  unfold itZip at h1
  split at h1
  · split at h1
    · rename_i xs g1 ys g2 e1 e2
      obtain ⟨w, w2, rfl, b, b2⟩ := vs2 rv
      obtain ⟨l1, a1, rfl, ⟨vs, q1⟩, k1⟩ := zsrc_at hr1 b e1
      obtain ⟨l2, a2, rfl, ⟨ws, q2⟩, k2⟩ := zsrc_at hr1 b2 e2
      refine ⟨l1, l2, a1, a2, vs, ws, rfl, q1, q2, h1 m1 H1 _ .refl hr1 ?_⟩
      have gd : ∀ {s'}, Grd (g1 ++ g2) s' → Grd g1 s' ∧ Grd g2 s' := fun g => ⟨fun p hp => g p (List.mem_append_left _ hp), fun p hp => g p (List.mem_append_right _ hp)⟩
      refine ⟨fun i m' s' H' x hr g hi => ?_, fun i m' s' H' v H'' x hr g hi y => ?_, fun m' s' H' x hr g => ?_⟩
      · obtain ⟨vs, q, r⟩ := k1 _ _ _ x hr (gd g).1
        obtain ⟨ws, q', r'⟩ := k2 _ _ _ x hr (gd g).2
        have hi : i < (zipD xs ys).length := hi
        rw [zipD_length] at hi
        have c1 : i < vs.length := by rw [r.length]; omega
        have c2 : i < ws.length := by rw [r'.length]; omega
        exact ⟨vs, ws, vs[i], ws[i], q, q', by simp [c1], by simp [c2]⟩
      · obtain ⟨vs, q, r⟩ := k1 _ _ _ x hr (gd g).1
        obtain ⟨ws, q', r'⟩ := k2 _ _ _ x hr (gd g).2
        obtain ⟨Ta, z, z2, rfl, hT, rfl, hy, hy2⟩ := y
        obtain ⟨d, f1, f2⟩ := r.getV (hy vs q)
        obtain ⟨d2, f1', f2'⟩ := r'.getV (hy2 ws q')
        obtain ⟨hr2, x2⟩ := hr.free (u := .tup [z, z2]) hT
        exact ⟨_, zipD_get xs ys i d d2 f1 f1', x2, hr2, .tup (.inl (.inl upd_same)) (.cons (f2.mono x2.toLe) (.cons (f2'.mono x2.toLe) .nil))⟩
      · obtain ⟨vs, q, r⟩ := k1 _ _ _ x hr (gd g).1
        obtain ⟨ws, q', r'⟩ := k2 _ _ _ x hr (gd g).2
        refine ⟨vs, ws, q, q', ?_, ?_, ?_⟩ <;> (show _; simp only [zipD_length, r.length, r'.length]; omega)
    · exact h1.elim
  · exact h1.elim
end
end T
set_option Elab.async false
set_option linter.all false
set_option maxRecDepth 100000
set_option maxHeartbeats 4000000
/-! TLk: targets, comprehensions. -/
namespace T
open PySem PySem.Spec L2
open PyProof.Rows hiding St
/-! ### targets -/
def LG (K : PySem.W.Frag) (ad : Ad) (ts : List Nat) (g : D → Env → Option Env) : TG := fun v σ H Q => ∃ m s env d, HR K ad.ca m s H ∧ ER K m H σ env ∧ RD K m H v d ∧
  match g d env with
  | some env' => ∀ σ', ER K m H σ' env' → wipe σ' ts = wipe σ ts → Q σ' H
  | none => False
def LGs (K : PySem.W.Frag) (ad : Ad) (ts : List Nat) (g : List D → Env → Option Env) : TGs := fun vs σ H Q => ∃ m s env ds, HR K ad.ca m s H ∧ ER K m H σ env ∧ RDs K m H vs ds ∧
  match g ds env with
  | some env' => ∀ σ', ER K m H σ' env' → wipe σ' ts = wipe σ ts → Q σ' H
  | none => False
theorem wipe_get (σ : L2.St) : ∀ (l : List Nat) (i : Nat), (wipe σ l)[i]? = if i ∈ l then σ[i]?.map (fun _ => none) else σ[i]?
  | [], i => by simp [wipe]
  | v :: l, i => by
    unfold wipe
    by_cases h : v = i
    · subst h
      rw [if_pos List.mem_cons_self, List.getElem?_set]
      simp [wipe_length]
      by_cases hl : v < σ.length
      · simp [hl]
      · simp [hl]
    · rw [List.getElem?_set_ne h, wipe_get σ l i]
      have : (i ∈ v :: l) ↔ i ∈ l := by simp [List.mem_cons, Ne.symm h]
      simp [this]
theorem wipe_mono {σ σ' : L2.St} {l l' : List Nat} (h : wipe σ l = wipe σ' l) (hs : ∀ i ∈ l, i ∈ l') : wipe σ l' = wipe σ' l' := by
  apply List.ext_getElem?
  intro i
  rw [wipe_get, wipe_get]
  have e := congrArg (fun x : List (Option V) => x[i]?) h
  simp only [wipe_get] at e
  by_cases hi : i ∈ l
  · rw [if_pos hi, if_pos hi] at e
    rw [if_pos (hs i hi), if_pos (hs i hi)]
    exact e
  · rw [if_neg hi, if_neg hi] at e
    rw [e]
section
variable {X : Cx} {ad : Ad} {W : WX} {e tg : Expr} {es : List Expr} {p pos : Pos}
theorem lg_nm {i : Nat} {x : Str} (hN : X.N.Nodup) (hi : X.N[i]? = some x) (hx : Loc X.env.scope x) (hf : X.fn x = true ∨ X.env.scope.names.lookup x = some .local) : PG X (.Name x pos) (LG X.K ad [i] fun d env => some (env.set i (some d))) := by
  refine ⟨fun pins st σ H v u Q I r h => (pg_name hN hi hx hf).run pins st σ H v u Q I r ?_⟩
  obtain ⟨m, s, env, d, hr, er, rd, h⟩ := h
  exact h _ (er.set rd) (by simp [wipe])
theorem lgs_nil : PGs X [] (LGs X.K ad [] fun ds env => match ds with | [] => some env | _ => none) := by
  refine ⟨fun pins st σ H vs us Q I r h => pgs_nil.run pins st σ H vs us Q I r ?_⟩
  obtain ⟨m, s, env, ds, hr, er, rd, h⟩ := h
  cases rd with
  | nil => exact ⟨rfl, h _ er rfl⟩
  | cons _ _ => exact h.elim
theorem asg_cons {env : PySem.Env} (h : noStar e = true) : (assignEach (e :: es) env).map (·.2) = assign e env :: (assignEach es env).map (·.2) := by
  cases e <;> first | rfl | (simp [noStar] at h)
theorem asg_all {env : PySem.Env} : ∀ {es : List Expr}, noStars es = true → assignEach es env = es.map fun e => (false, assign e env)
  | [], _ => rfl
  | e :: es, h => by
    unfold noStars at h
    rw [List.all_cons, Bool.and_eq_true] at h
    have : assignEach (e :: es) env = (false, assign e env) :: assignEach es env := by
      have h1 := h.1
      cases e <;> first | rfl | (simp [noStar] at h1)
    rw [this, asg_all h.2]; rfl
theorem lgs_cons {ts us : List Nat} {g : D → Env → Option Env} {gs : List D → Env → Option Env} (h1 : PG X e (LG X.K ad ts g)) (h2 : PGs X es (LGs X.K ad us gs)) (hs : noStar e = true) :
    PGs X (e :: es) (LGs X.K ad (ts ++ us) fun ds env => match ds with | d :: r => (g d env).bind (gs r) | [] => none) := by
  refine ⟨fun pins st σ H vs ws Q I r h => (pgs_cons h1 h2 (asg_cons hs)).run pins st σ H vs ws Q I r ?_⟩
  obtain ⟨m, s, env, ds, hr, er, rd, h⟩ := h
  cases rd with
  | nil => exact h.elim
  | @cons v d vr dr hd hrs =>
    refine ⟨v, vr, rfl, m, s, env, d, hr, er, hd, ?_⟩
    cases hg : g d env with
    | none => simp only [hg, Option.bind_none] at h
    | some env1 =>
      simp only [hg, Option.bind_some] at h
      refine fun σ1 er1 w1 => ⟨m, s, env1, dr, hr, er1, hrs, ?_⟩
      cases hg2 : gs dr env1 with
      | none => rw [hg2] at h; exact h
      | some env2 =>
        rw [hg2] at h
        exact fun σ2 er2 w2 => h σ2 er2 ((wipe_mono w2 fun i hi => List.mem_append_right _ hi).trans (wipe_mono w1 fun i hi => List.mem_append_left _ hi))
theorem lg_tp {ts : List Nat} {gs : List D → Env → Option Env} {k : Nat} (hc : X.calm = true) (h : PGs X es (LGs X.K ad ts gs)) (hs : noStars es = true) :
    PG X (.Tuple es k pos) (LG X.K ad ts fun d env => match d with | .tup ds => if ds.length = es.length then gs ds env else none | _ => none) := by
  refine ⟨fun pins st σ H v u Q I r hh => (pg_tup (n := es.length) hc h (by rw [asg_all hs, List.length_map]) ?_).run pins st σ H v u Q I r ?_⟩
  · rw [asg_all hs]
    clear h hh
    induction es with
    | nil => rfl
    | cons a r ih =>
      unfold noStars at hs
      rw [List.all_cons, Bool.and_eq_true] at hs
      rw [List.map_cons, List.findIdx?_cons]
      simp only [Bool.false_eq_true, if_false]
      rw [ih hs.2]; rfl
  · obtain ⟨m, s, env, d, hr, er, rd, hh⟩ := hh
    cases rd with
    | @tup a vs ds q rs =>
      dsimp only at hh
      by_cases hl : ds.length = es.length
      · rw [if_pos hl] at hh
        exact ⟨a, vs, rfl, q, by rw [rs.length]; exact hl, m, s, env, ds, hr, er, rs, hh⟩
      · rw [if_neg hl] at hh; exact hh.elim
    | _ => exact hh.elim
/-- a, b, .. = a list -/
def unL (s : S) : D → Option (List D)
  | .ref n => lsAt s n
  | _ => none
def LGl (K : PySem.W.Frag) (ad : Ad) (ts : List Nat) (g : List D → Env → Option Env) : TG := fun v σ H Q => ∃ m s env d ds, HR K ad.ca m s H ∧ ER K m H σ env ∧ RD K m H v d ∧ unL s d = some ds ∧
  match g ds env with
  | some env' => ∀ σ', ER K m H σ' env' → wipe σ' ts = wipe σ ts → Q σ' H
  | none => False
theorem lg_tl {ts : List Nat} {gs : List D → Env → Option Env} {k : Nat} (hc : X.calm = true) (h : PGs X es (LGs X.K ad ts gs)) (hs : noStars es = true) :
    PG X (.Tuple es k pos) (LGl X.K ad ts fun ds env => if ds.length = es.length then gs ds env else none) := by
  refine ⟨fun pins st σ H v u Q I r hh => (pg_lst (n := es.length) hc h (by rw [asg_all hs, List.length_map]) ?_).run pins st σ H v u Q I r ?_⟩
  · rw [asg_all hs]
    clear h hh
    induction es with
    | nil => rfl
    | cons a r ih =>
      unfold noStars at hs
      rw [List.all_cons, Bool.and_eq_true] at hs
      rw [List.map_cons, List.findIdx?_cons]
      simp only [Bool.false_eq_true, if_false]
      rw [ih hs.2]; rfl
  · obtain ⟨m, s, env, d, ds, hr, er, rd, hd, hh⟩ := hh
    cases rd with
    | @ref a n hn =>
      obtain ⟨vs, e1, rs⟩ := hr.lst hn hd
      dsimp only at hh
      by_cases hl : ds.length = es.length
      · rw [if_pos hl] at hh
        exact ⟨a, vs, rfl, SqL.of e1, by rw [rs.length]; exact hl, m, s, env, ds, hr, er, rs, hh⟩
      · rw [if_neg hl] at hh; exact hh.elim
    | _ => cases hd
end
/-! ### comprehensions -/
open Classical in
noncomputable def loopC (gs : Gs) (g : D → Env → Option Env) (tst : Env → S → R Bool) (elt : Env → S → R D) (env : Env) : List D → List D → S → R (List D)
  | [], acc, s => if Grd gs s then .ok acc s else .no
  | d :: ds, acc, s => if Grd gs s then (match g d env with
      | none => .no
      | some env1 => match tst env1 s with
        | .ok b s1 => if b then (match elt env1 s1 with
            | .ok y s2 => if acc.length < 1000000 then loopC gs g tst elt env ds (acc ++ [y]) s2 else .no
            | _ => .no) else loopC gs g tst elt env ds acc s1
        | _ => .no) else .no
/-- a list of ours at last -/
def endC (r : R (List D)) : R D := match r with
  | .ok acc s => .ok (.ref s.length) (s ++ [.lst acc])
  | _ => .no
theorem HR.other {K : PySem.W.Frag} {ca : Nat → Addr} {m : List Addr} {s : S} {H : Hp} {Da : Addr} {u : HO} (hr : HR K ca m s H) (hn : Da ∉ m) (hm : Mut (H Da)) : HR K ca m s (upd H Da u) ∧ Le K m H m (upd H Da u) := by
  have w : Wr H Da := .inr hm
  have x : Le K m H m (upd H Da u) := ⟨fun _ _ h => h, fun b xs h => sqT_upd (fun xs o => w.tup xs o) h, fun b xs h => sqF_upd (fun xs o => w.frz xs o) h⟩
  refine ⟨⟨hr.len, hr.nd, fun n a o h1 h2 => (hr.at_ n a o h1 h2).mono x (upd_ne ?_)⟩, x⟩
  rintro rfl
  exact hn (List.mem_of_getElem? h1)
theorem Ext.over {K : PySem.W.Frag} {m0 m : List Addr} {H0 H : Hp} {Da : Addr} {u : HO} (x : Ext K m0 H0 m H) (h0 : H0 Da = none) (l : Le K m H m (upd H Da u)) : Ext K m0 H0 m (upd H Da u) :=
  ⟨⟨fun n a h => x.pre n a h, fun b xs h => l.tup b xs (x.tup b xs h), fun b xs h => l.rol b xs (x.rol b xs h)⟩, fun b o h nb => ⟨by rw [upd_ne (ne_of_none h h0)]; exact (x.oth b o h nb).1, (x.oth b o h nb).2⟩, fun b o u h => by rw [upd_ne (ne_of_none h h0)]; exact x.frz b o u h⟩
abbrev W0 : WX := fun _ _ _ _ => False
section
variable {X : Cx} {ad : Ad} {W : WX} {elt tg iter : Expr} {ifs : List Expr} {scope : Scope} {own : List (Str × Nat)} {p pos : Pos}
/-- what the reading of a comprehension's loop asks -/
theorem lc_reads {K : PySem.W.Frag} {fi : Env → S → R (List D × Gs)} {ft : Env → S → R Bool} {fe : Env → S → R D} {ts : List Nat} {g : D → Env → Option Env} {σ : L2.St} {H : Hp} {Q : VK} {vs : List Nat} (hts : ∀ i ∈ ts, i ∈ vs)
    (h : LE K ad W (fun env s => (fi env s).bind fun p s1 => endC (loopC p.2 g ft fe (wipeE env vs) p.1 [] s1)) σ H Q) : tLc (LI K ad W fi) (LG K ad ts g) (LT K ad W0 ft) (LE K ad W0 fe) vs σ H Q := by
  obtain ⟨m, s, env, hr, er, h⟩ := h
  refine ⟨m, s, env, hr, er, h.bind fun p s1 m1 H1 J _ x1 hr1 rJ h1 => ?_⟩
  obtain ⟨ds, gs⟩ := p
  intro Da hD
  have rJ : Wk K ad J ds gs m1 H1 := rJ
  have h1 : Out K ad W σ m1 H1 (RD K) Q (endC (loopC gs g ft fe (wipeE env vs) ds [] s1)) := h1
  have er1 := (er.mono x1.toLe)
  generalize hst : endC (loopC gs g ft fe (wipeE env vs) ds [] s1) = start at h1
  refine ⟨fun i n H' => n = ds.length - i ∧ i ≤ ds.length ∧ ∃ m' s' acc ws, Ext K m1 H1 m' H' ∧ HR K ad.ca m' s' H' ∧ H' Da = some (.lst ws) ∧ Da ∉ m' ∧ RDs K m' H' ws acc ∧ start = endC (loopC gs g ft fe (wipeE env vs) (ds.drop i) acc s'),
    ⟨ds.length, by simp, Nat.zero_le _, m1, s1, [], [], ?_⟩, ?_⟩
  · obtain ⟨hr2, x2⟩ := hr1.free (u := .lst []) hD
    exact ⟨x2, hr2, upd_same, hr1.fresh hD, .nil, by rw [List.drop_zero, hst]⟩
  · rintro i n H' ⟨rfl, hi, m', s', acc, ws, x', hr', hDa, hDm, rs, he⟩
    rw [he] at h1
    by_cases hlt : i < ds.length
    · have hd : ds.drop i = ds[i] :: ds.drop (i + 1) := List.drop_eq_getElem_cons hlt
      rw [hd] at h1 he
      unfold loopC at h1 he
      by_cases hg : Grd gs s'
      · rw [if_pos hg] at h1 he
        refine .inr ⟨rJ.go i m' s' H' x' hr' hg hlt, fun H2 => ∃ m' s' acc ws, Ext K m1 H1 m' H2 ∧ HR K ad.ca m' s' H2 ∧ H2 Da = some (.lst ws) ∧ Da ∉ m' ∧ RDs K m' H2 ws acc ∧ start = endC (loopC gs g ft fe (wipeE env vs) (ds.drop (i + 1)) acc s'),
          fun H2 ⟨m2, s2, acc2, ws2, a1, a2, a3, a4, a5, a6⟩ => ⟨_, by omega, rfl, by omega, m2, s2, acc2, ws2, a1, a2, a3, a4, a5, a6⟩, fun v H2 hy => ?_⟩
        obtain ⟨d, hd1, x2, hr2, rd⟩ := rJ.yld i m' s' H' v H2 x' hr' hg hlt hy
        rw [List.getElem?_eq_getElem hlt] at hd1
        have hd1 : ds[i] = d := Option.some.inj hd1
        rw [hd1] at h1 he
        obtain ⟨hDa2, hDm2⟩ := x2.oth Da _ hDa hDm
        have x2' := x'.trans x2
        refine ⟨m', s', wipeE env vs, d, hr2, ((er1.mono x2'.toLe).wipe vs), rd, ?_⟩
        cases hgd : g d (wipeE env vs) with
        | none => rw [hgd] at h1; exact h1.elim
        | some env1 =>
          rw [hgd] at h1 he
          dsimp only at h1 he
          refine fun σ2 er2 w2 => ⟨wipe_mono w2 hts |>.trans ?_, m', s', env1, hr2, er2, ?_⟩
          · apply List.ext_getElem?
            intro j
            simp only [wipe_get]
            by_cases hj : j ∈ vs
            · simp only [if_pos hj]; cases σ[j]? <;> rfl
            · simp only [if_neg hj]
          · cases ht : ft env1 s' with
            | no => rw [ht] at h1; exact h1.elim
            | ex c s => rw [ht] at h1; exact h1.elim
            | ok b s3 =>
              rw [ht] at h1 he
              dsimp only at h1 he
              intro m3 H3 b' x3 hr3 eb
              have eb : b' = b := eb
              subst eb
              obtain ⟨hDa3, hDm3⟩ := x3.oth Da _ hDa2 hDm2
              cases b' with
              | false =>
                simp only [Bool.false_eq_true, if_false] at h1 he ⊢
                exact ⟨m3, s3, acc, ws, x2'.trans x3, hr3, hDa3, hDm3, (rs.mono x2.toLe).mono x3.toLe, he⟩
              | true =>
                simp only [if_true] at h1 he ⊢
                refine ⟨m3, s3, env1, hr3, er2.mono x3.toLe, ?_⟩
                cases hy : fe env1 s3 with
                | no => rw [hy] at h1; exact h1.elim
                | ex c s => rw [hy] at h1; exact h1.elim
                | ok y s4 =>
                  rw [hy] at h1 he
                  dsimp only at h1 he
                  intro m4 H4 yv x4 hr4 ry
                  obtain ⟨hDa4, hDm4⟩ := x4.oth Da _ hDa3 hDm3
                  by_cases hl : acc.length < 1000000
                  · rw [if_pos hl] at he
                    have rs4 := ((rs.mono x2.toLe).mono x3.toLe).mono x4.toLe
                    refine ⟨ws, hDa4, by rw [rs4.length]; have := sizeLine_eq; omega, ?_⟩
                    obtain ⟨hr5, l5⟩ := hr4.other (u := .lst (ws ++ [yv])) hDm4 (by rw [hDa4]; trivial)
                    exact ⟨m4, s4, acc ++ [y], ws ++ [yv], ((x2'.trans x3).trans x4).over hD l5, hr5, upd_same, hDm4, (rs4.mono l5).append (.cons (ry.mono l5) .nil), he⟩
                  · rw [if_neg hl] at h1; exact h1.elim
      · rw [if_neg hg] at h1; exact h1.elim
    · have hl : i = ds.length := by omega
      subst hl
      rw [List.drop_length] at h1
      unfold loopC at h1
      by_cases hg : Grd gs s'
      · rw [if_pos hg] at h1
        refine .inl ⟨rJ.stop m' s' H' x' hr' hg, ?_⟩
        have hA : HR K ad.ca (m' ++ [Da]) (s' ++ [.lst acc]) H' := hr'.adopt hDm ⟨ws, hDa, rs.mono le_more⟩
        have h1 : Out K ad W σ m1 H1 (RD K) Q (R.ok (.ref s'.length) (s' ++ [.lst acc])) := h1
        refine h1 _ H' (.ref Da) ?_ hA (.ref ?_)
        · refine ⟨⟨fun n a h => le_more.pre (H := H') (K := K) n a (x'.pre n a h), x'.tup, x'.rol⟩, fun b o h nb => ⟨(x'.oth b o h nb).1, ?_⟩, x'.frz⟩
          simp only [List.mem_append, List.mem_singleton, not_or]
          exact ⟨(x'.oth b o h nb).2, ne_of_none h hD⟩
        · rw [← hr'.len, List.getElem?_append_right (Nat.le_refl _)]
          simp
      · rw [if_neg hg] at h1; exact h1.elim
end
end T
set_option Elab.async false
set_option linter.all false
set_option maxRecDepth 100000
set_option maxHeartbeats 4000000
/-! TLs: statements. -/
namespace T
open PySem PySem.Spec L2
open PyProof.Rows hiding St
/-- how a block ends -/
inductive SR where
  | nx (env : Env) (s : S) | rt (d : D) (s : S) | bk (env : Env) (s : S) | ct (env : Env) (s : S) | ex (c : Nat) (env : Env) (s : S) | no
def SR.bind (r : SR) (f : Env → S → SR) : SR := match r with
  | .nx env s => f env s
  | r => r
@[simp] theorem SR.bind_nx {env : Env} {s : S} {f : Env → S → SR} : (SR.nx env s).bind f = f env s := rfl
@[simp] theorem SR.bind_rt {d : D} {s : S} {f : Env → S → SR} : (SR.rt d s).bind f = .rt d s := rfl
@[simp] theorem SR.bind_bk {env : Env} {s : S} {f : Env → S → SR} : (SR.bk env s).bind f = .bk env s := rfl
@[simp] theorem SR.bind_ct {env : Env} {s : S} {f : Env → S → SR} : (SR.ct env s).bind f = .ct env s := rfl
@[simp] theorem SR.bind_ex {c : Nat} {env : Env} {s : S} {f : Env → S → SR} : (SR.ex c env s).bind f = .ex c env s := rfl
@[simp] theorem SR.bind_no {f : Env → S → SR} : SR.no.bind f = .no := rfl
/-- an expression ahead -/
def R.st {α : Type} (r : R α) (env : Env) (f : α → S → SR) : SR := match r with
  | .ok a s => f a s
  | .ex c s => .ex c env s
  | .no => .no
@[simp] theorem R.st_ok {α : Type} {a : α} {s : S} {env : Env} {f : α → S → SR} : (R.ok a s).st env f = f a s := rfl
@[simp] theorem R.st_ex {α : Type} {c : Nat} {s : S} {env : Env} {f : α → S → SR} : (R.ex c s).st env f = .ex c env s := rfl
@[simp] theorem R.st_no {α : Type} {env : Env} {f : α → S → SR} : (R.no).st env f = .no := rfl
def OutS (K : PySem.W.Frag) (ad : Ad) (W : WX) (m : List Addr) (H : Hp) (D : Ends) : SR → Prop
  | .nx env s => ∀ m' H' σ', Ext K m H m' H' → HR K ad.ca m' s H' → ER K m' H' σ' env → D.nx σ' H'
  | .rt d s => ∀ m' H' v, Ext K m H m' H' → HR K ad.ca m' s H' → RD K m' H' v d → D.rt v H'
  | .bk env s => ∀ m' H' σ', Ext K m H m' H' → HR K ad.ca m' s H' → ER K m' H' σ' env → D.bk σ' H'
  | .ct env s => ∀ m' H' σ', Ext K m H m' H' → HR K ad.ca m' s H' → ER K m' H' σ' env → D.ct σ' H'
  | .ex c env s => ∀ m' H' σ', Ext K m H m' H' → HR K ad.ca m' s H' → ER K m' H' σ' env → W (.ref (ad.ea c)) none σ' H'
  | .no => False
section
variable {K : PySem.W.Frag} {ad : Ad} {W : WX} {m m1 : List Addr} {H H1 : Hp} {De : Ends} {σ : L2.St}
theorem OutS.shift {r : SR} (h : OutS K ad W m H De r) (x : Ext K m H m1 H1) : OutS K ad W m1 H1 De r := by
  cases r with
  | no => exact h
  | nx env s => exact fun m' H' σ' y => h m' H' σ' (x.trans y)
  | rt d s => exact fun m' H' σ' y => h m' H' σ' (x.trans y)
  | bk env s => exact fun m' H' σ' y => h m' H' σ' (x.trans y)
  | ct env s => exact fun m' H' σ' y => h m' H' σ' (x.trans y)
  | ex c env s => exact fun m' H' σ' y => h m' H' σ' (x.trans y)
theorem OutS.bind {r : SR} {f : Env → S → SR} {nx : L2.St → Hp → Prop} (h : OutS K ad W m H De (r.bind f))
    (k : ∀ env s m1 H1 σ1, r = .nx env s → Ext K m H m1 H1 → HR K ad.ca m1 s H1 → ER K m1 H1 σ1 env → OutS K ad W m1 H1 De (f env s) → nx σ1 H1) : OutS K ad W m H { De with nx := nx } r := by
  cases r with
  | nx env s => exact fun m' H' σ' x hr er => k env s m' H' σ' rfl x hr er (OutS.shift (by simpa using h) x)
  | _ => exact h
/-- an expression ahead of a statement -/
theorem OutS.ofE {α υ : Type} {rel : List Addr → Hp → υ → α → Prop} {r : R α} {env : Env} {f : α → S → SR} {Q : υ → Hp → Prop} (er : ER K m H σ env) (h : OutS K ad W m H De (r.st env f))
    (k : ∀ a s m1 H1 v, r = .ok a s → Ext K m H m1 H1 → HR K ad.ca m1 s H1 → rel m1 H1 v a → ER K m1 H1 σ env → OutS K ad W m1 H1 De (f a s) → Q v H1) : Out K ad W σ m H rel Q r := by
  cases r with
  | ok a s => exact fun m' H' v x hr rv => k a s m' H' v rfl x hr rv (er.mono x.toLe) (OutS.shift (by simpa using h) x)
  | ex c s => exact fun m' H' x hr => h m' H' σ x hr (er.mono x.toLe)
  | no => exact h
end
def LS (K : PySem.W.Frag) (ad : Ad) (W : WX) (g : Env → S → SR) : TS := fun De σ H => ∃ m s env, HR K ad.ca m s H ∧ ER K m H σ env ∧ OutS K ad W m H De (g env s)
section
variable {X : Cx} {ad : Ad} {W : WX} {e c o : Expr} {st : Stmt} {rest : List Stmt} {pos pos' p : Pos}
theorem ls_no : PS X st (LS X.K ad W fun _ _ => .no) := ⟨fun _ _ _ _ _ _ h => by obtain ⟨_, _, _, _, _, z⟩ := h; exact z.elim⟩
theorem ls_nil : PSs X [] (LS X.K ad W fun env s => .nx env s) := pss_nil.imp fun D σ H ⟨m, s, env, hr, er, h⟩ => h m H σ .refl hr er
theorem ls_cons {f g : Env → S → SR} (h1 : PS X st (LS X.K ad W f)) (h2 : PSs X rest (LS X.K ad W g)) : PSs X (st :: rest) (LS X.K ad W fun env s => (f env s).bind g) :=
  (pss_cons h1 h2).imp fun D σ H ⟨m, s, env, hr, er, h⟩ => ⟨m, s, env, hr, er, h.bind fun env1 s1 m1 H1 σ1 _ x1 hr1 er1 h1 => ⟨m1, s1, env1, hr1, er1, h1⟩⟩
theorem ls_set {i : Nat} {x : Str} {fe : Env → S → R D} (hN : X.N.Nodup) (hi : X.N[i]? = some x) (hx : Loc X.env.scope x) (hf : X.fn x = true) (he : PE X e (LE X.K ad W fe)) (hs : noLc e = true) :
    PS X (.Assign [.Name x pos'] e pos) (LS X.K ad W fun env s => (fe env s).st env fun d s1 => .nx (env.set i (some d)) s1) :=
  (ps_set hN hi hx he (swaps hs) (.inl hf)).imp fun D σ H ⟨m, s, env, hr, er, h⟩ => ⟨m, s, env, hr, er, h.ofE er fun d s1 m1 H1 v _ x1 hr1 rv er1 h1 => h1 m1 H1 _ .refl hr1 (er1.set rv)⟩
/-- another target, or several ones -/
theorem ls_asg {tg : Expr} {ts : List Nat} {g : D → Env → Option Env} {fe : Env → S → R D} (he : PE X e (LE X.K ad W fe)) (hg : PG X tg (LG X.K ad ts g)) (hs : swapsWithSole [tg] e pos.line X.env = pure false) (hw : swappedStores [tg] e X.env = pure none) (ht : noStar tg = true) :
    PS X (.Assign [tg] e pos) (LS X.K ad W fun env s => (fe env s).st env fun d s1 => match g d env with | some env1 => .nx env1 s1 | none => .no) :=
  (ps_asg he hg hs hw (by rw [asg_cons ht]; rfl)).imp fun D σ H ⟨m, s, env, hr, er, h⟩ => ⟨m, s, env, hr, er, h.ofE er fun d s1 m1 H1 v _ x1 hr1 rv er1 h1 => by
    refine ⟨m1, s1, env, d, hr1, er1, rv, ?_⟩
    cases hg : g d env with
    | none => rw [hg] at h1; exact h1
    | some env1 => rw [hg] at h1; exact fun σ' er' _ => h1 m1 H1 σ' .refl hr1 er'⟩
theorem ls_asl {tg : Expr} {ts : List Nat} {g : List D → Env → Option Env} {fe : Env → S → R D} (he : PE X e (LE X.K ad W fe)) (hg : PG X tg (LGl X.K ad ts g)) (hs : swapsWithSole [tg] e pos.line X.env = pure false) (hw : swappedStores [tg] e X.env = pure none) (ht : noStar tg = true) :
    PS X (.Assign [tg] e pos) (LS X.K ad W fun env s => (fe env s).st env fun d s1 => match unL s1 d with | some ds => (match g ds env with | some env1 => .nx env1 s1 | none => .no) | none => .no) :=
  (ps_asg he hg hs hw (by rw [asg_cons ht]; rfl)).imp fun D σ H ⟨m, s, env, hr, er, h⟩ => ⟨m, s, env, hr, er, h.ofE er fun d s1 m1 H1 v _ x1 hr1 rv er1 h1 => by
    cases hu : unL s1 d with
    | none => rw [hu] at h1; exact h1.elim
    | some ds =>
      rw [hu] at h1
      dsimp only at h1
      refine ⟨m1, s1, env, d, ds, hr1, er1, rv, hu, ?_⟩
      cases hg : g ds env with
      | none => rw [hg] at h1; exact h1
      | some env1 => rw [hg] at h1; exact fun σ' er' _ => h1 m1 H1 σ' .refl hr1 er'⟩
/-- a, b = (x, y): the pair is made, what it holds is stored from the right -/
theorem ps_parE {i j : Nat} {x z : Str} {a b : Expr} {te : TE} {px pz pt pos : Pos} {kt k2 pt2} (hc : X.calm = true) (hN : X.N.Nodup) (hi : X.N[i]? = some x) (hj : X.N[j]? = some z) (hij : i ≠ j)
    (hx : X.env.scope.names.lookup x = some .local) (hz : X.env.scope.names.lookup z = some .local) (he : PE X (.Tuple [a, b] k2 pt2) te)
    (hw : swappedStores [.Tuple [.Name x px, .Name z pz] kt pt] (.Tuple [a, b] k2 pt2) X.env = pure (some [x, z]))
    (hs : swapsWithSole [.Tuple [.Name x px, .Name z pz] kt pt] (.Tuple [a, b] k2 pt2) pos.line X.env = pure false) :
    PS X (.Assign [.Tuple [.Name x px, .Name z pz] kt pt] (.Tuple [a, b] k2 pt2) pos) (fun D σ H => te σ H fun v H1 => ∃ c u w, v = .ref c ∧ SqT X.K H1 c [u, w] ∧ D.nx ((σ.set i (some u)).set j (some w)) H1) := by
  refine ⟨fun pins s σ H D I h => ?_⟩
  rw [exec_Assign_arm]
  refine wpAny_bind (wpAny_standAt ?_)
  rw [hs]
  refine wpAny_bind (wpAny_pure ?_)
  rw [if_neg (by decide)]
  refine wpAny_bind (thn (he.run pins s σ H _ I h) fun vv s1 ⟨v, H1, I1, r1, q1⟩ => ?_)
  obtain ⟨c, u, w, e1, hq, q1⟩ := q1
  subst e1
  cases r1
  obtain ⟨its, rv, ht, _⟩ := I1.tuple hq
  rw [hw]
  refine wpAny_bind (wpAny_pure ?_)
  obtain ⟨u1, u2, e2, ru, rw'⟩ : ∃ u1 u2, its = [u1, u2] ∧ RelV u u1 ∧ RelV w u2 := by
    cases rv with
    | cons p q =>
      cases q with
      | cons p' q' =>
        cases q'
        exact ⟨_, _, rfl, p, p'⟩
  subst e2
  show wpAny (model X.prog X.w) X.A (do rule "assign.swapped-stores"; let items ← unpackItems (.ref _) 2 none; assignInOrder [fun v => bindName X.env z v, fun v => bindName X.env x v] items.reverse; pure Flow.next) _ _ _
  refine wpAny_bind (wpAny_rule (wpAny_bind (unpackItems_tuple (items := #[u1, u2]) (I1.ok.hd hc) ht fun h' hx' => ?_)))
  have I3 := I1.kept (h' := h') (t' := s1.toks) fun b o e => hx' b o (Nat.ne_of_lt (Heap.lt_size e)) e
  show wpAny _ _ (assignInOrder [fun v => bindName X.env z v, fun v => bindName X.env x v] [u2, u1] >>= fun _ => pure Flow.next) _ _ _
  refine wpAny_bind (assignInOrder_cons (wpAny_bindName (store_ok I3 hN hj (.inl hz) rw' (fun s2 I4 => ?_) (.inr hz))))
  refine assignInOrder_cons (wpAny_bindName (store_ok I4 hN hi (.inl hx) ru (fun s3 I5 => assignInOrder_nil (wpAny_pure ?_)) (.inr hx)))
  rw [List.set_comm _ _ (Ne.symm hij)] at I5
  exact ⟨_, H1, I5, q1⟩
def par2 (i j : Nat) (d : D) (env : Env) : Option Env := match d with
  | .tup [d1, d2] => some ((env.set i (some d1)).set j (some d2))
  | _ => none
theorem ls_par {i j : Nat} {x z : Str} {a b : Expr} {fe : Env → S → R D} {px pz pt pos : Pos} {kt k2 pt2} (hc : X.calm = true) (hN : X.N.Nodup) (hi : X.N[i]? = some x) (hj : X.N[j]? = some z) (hij : i ≠ j)
    (hx : X.env.scope.names.lookup x = some .local) (hz : X.env.scope.names.lookup z = some .local) (he : PE X (.Tuple [a, b] k2 pt2) (LE X.K ad W fe))
    (hw : swappedStores [.Tuple [.Name x px, .Name z pz] kt pt] (.Tuple [a, b] k2 pt2) X.env = pure (some [x, z]))
    (hs : swapsWithSole [.Tuple [.Name x px, .Name z pz] kt pt] (.Tuple [a, b] k2 pt2) pos.line X.env = pure false) :
    PS X (.Assign [.Tuple [.Name x px, .Name z pz] kt pt] (.Tuple [a, b] k2 pt2) pos) (LS X.K ad W fun env s => (fe env s).st env fun d s1 => match par2 i j d env with | some env1 => .nx env1 s1 | none => .no) :=
  (ps_parE hc hN hi hj hij hx hz he hw hs).imp fun D σ H ⟨m, s, env, hr, er, h⟩ => ⟨m, s, env, hr, er, h.ofE er fun d s1 m1 H1 v _ x1 hr1 rv er1 h1 => by
    cases rv with
    | @tup c vs ds q rs =>
      cases rs with
      | nil => exact h1.elim
      | cons r1 rs =>
        cases rs with
        | nil => exact h1.elim
        | cons r2 rs =>
          cases rs with
          | nil => exact ⟨_, _, _, rfl, q, h1 m1 H1 _ .refl hr1 ((er1.set r1).set r2)⟩
          | cons _ _ => exact h1.elim
    | _ => exact h1.elim⟩
/-- o[i] = e, o a list -/
def setAt (s : S) (a i d : D) : Option S := match a, i with
  | .ref n, .int k => match lsAt s n with
    | some ds => match ixN ds.length k with
      | some j => some (s.set n (.lst (ds.set j d)))
      | none => none
    | none => match dcAt s n with
      | some kvs => if kvs.length < 1000000 then some (s.set n (.dic (putD kvs (.inl k) d))) else none
      | none => none
  | .ref n, .str x => match dcAt s n with
    | some kvs => if kvs.length < 1000000 then some (s.set n (.dic (putD kvs (.inr x) d))) else none
    | none => none
  | _, _ => none
theorem swapsS {e o i : Expr} {p : Pos} {l : Nat} {env : PySem.Env} : swapsWith e (some (.Subscript o i p)) l env = pure false := by cases e <;> rfl
theorem swapsA {e o : Expr} {f : Str} {p : Pos} {l : Nat} {env : PySem.Env} : swapsWith e (some (.Attribute o f p)) l env = pure false := by cases e <;> rfl
theorem ls_sub {i : Expr} {fe fo fi : Env → S → R D} (hu : X.A.units + 100 < cLine) (he : PE X e (LE X.K ad W fe)) (ho : PE X o (LE X.K ad W fo)) (hi : PE X i (LE X.K ad W fi)) (hsl : noSl i = true) :
    PS X (.Assign [.Subscript o i p] e pos) (LS X.K ad W fun env s => (fe env s).st env fun d s1 => (fo env s1).st env fun a s2 => (fi env s2).st env fun k s3 => match setAt s3 a k d with | some s4 => .nx env s4 | none => .no) := by
  have hg : PG X (.Subscript o i p) (gSub (LE X.K ad W fo) (LE X.K ad W fi) fun o i v H Q => rSetL o i v H Q ∨ rSetK o i v H Q) := pg_sub ho hi (set_lk (by omega)) (by
    intro v
    cases i <;> first | rfl | (simp [noSl] at hsl))
  refine (ps_asg he hg (by unfold swapsWithSole; exact swapsS) (by rfl) (by rfl)).imp fun De σ H ⟨m, s, env, hr, er, h⟩ => ⟨m, s, env, hr, er, h.ofE er fun d s1 m1 H1 v _ x1 hr1 rv er1 h1 =>
    ⟨m1, s1, env, hr1, er1, h1.ofE er1 fun a s2 m2 H2 u _ x2 hr2 ru er2 h2 => ⟨m2, s2, env, hr2, er2, h2.ofE er2 fun k s3 m3 H3 w _ x3 hr3 rw er3 h3 => ?_⟩⟩⟩
  have ru := ru.mono x3.toLe
  have rv := (rv.mono x2.toLe).mono x3.toLe
  have dic : ∀ {q : Key} {n : Nat} {b : Addr} {kvs : List (Key × D)}, dcAt s3 n = some kvs → m3[n]? = some b → kvs.length < 1000000 → u = .ref b → w = kV q →
      OutS X.K ad W m3 H3 De (.nx env (s3.set n (.dic (putD kvs q d)))) → rSetL u w v H3 (fun H' => De.nx σ H') ∨ rSetK u w v H3 (fun H' => De.nx σ H') := by
    intro q n b kvs hd hn hl hu hw h
    subst hu hw
    obtain ⟨kws, e1, rs⟩ := hr3.at_ n b _ hn (dcAt_some hd)
    refine .inr ⟨b, kws, q, rfl, e1, rfl, by have := rks_len rs; have := sizeLine_eq; omega, ?_⟩
    obtain ⟨h5, x5⟩ := hr3.write (u := .dK (putK kws q v)) (o := .dic (putD kvs q d)) hn (fun x => ⟨_, upd_same, RKs.mono x.toLe (rks_put rs q rv)⟩) (nf_dc (dcAt_some hd))
    exact h m3 _ σ x5 h5 (er3.mono x5.toLe)
  unfold setAt at h3
  split at h3
  · rename_i s4 he4
    split at he4
    · split at he4
      · rename_i ds hds
        split at he4
        · rename_i j hj
          cases he4
          cases rw
          cases ru with
          | ref hn =>
            obtain ⟨vs, e1, rs⟩ := hr3.lst hn hds
            refine .inl ⟨_, vs, _, j, rfl, rfl, e1, by rw [rs.length]; exact hj, ?_⟩
            obtain ⟨h5, x5⟩ := hr3.write (u := .lst (vs.set j v)) (o := .lst (ds.set j d)) hn (fun x => ⟨_, upd_same, (rs.set rv j).mono x.toLe⟩) (nf_ls (lsAt_some hds))
            exact h3 m3 _ σ x5 h5 (er3.mono x5.toLe)
        · cases he4
      · split at he4
        · rename_i kvs hd
          split at he4
          · rename_i hl
            cases he4
            cases rw
            cases ru with
            | ref hn => exact dic (q := .inl _) hd hn hl rfl rfl h3
          · cases he4
        · cases he4
    · split at he4
      · rename_i kvs hd
        split at he4
        · rename_i hl
          cases he4
          cases rw
          cases ru with
          | ref hn => exact dic (q := .inr _) hd hn hl rfl rfl h3
        · cases he4
      · cases he4
    · cases he4
  · exact h3.elim
theorem ls_ex {fe : Env → S → R D} (he : PE X e (LE X.K ad W fe)) (hs : noLc e = true) : PS X (.Expr e pos) (LS X.K ad W fun env s => (fe env s).st env fun _ s1 => .nx env s1) :=
  (ps_expr he (swaps hs)).imp fun D σ H ⟨m, s, env, hr, er, h⟩ => ⟨m, s, env, hr, er, h.ofE er fun d s1 m1 H1 v _ x1 hr1 rv er1 h1 => h1 m1 H1 σ .refl hr1 er1⟩
/-- x op= e, ints -/
def aug2 : BOp → D → D → Option D
  | .add, .int i, .int j => some (.int (i + j))
  | .sub, .int i, .int j => some (.int (i - j))
  | _, _, _ => none
def rAug (o : BOp) : V → V → Hp → VK → Prop := fun x y H Q => ∃ i j, x = .int i ∧ y = .int j ∧ ((o = .add ∧ Q (.int (i + j)) H) ∨ (o = .sub ∧ Q (.int (i - j)) H))
theorem pip_aug (o : BOp) : PIp X o.op (rAug o) := by
  intro pins s σ H x y v u Q I rx ry ⟨i, j, e1, e2, h⟩
  rcases h with ⟨rfl, q⟩ | ⟨rfl, q⟩
  · exact augR iop_add I rx ry ⟨i, j, e1, e2, q⟩
  · exact augR iop_sub I rx ry ⟨i, j, e1, e2, q⟩
theorem ls_aug {i : Nat} {x : Str} {fe : Env → S → R D} (o : BOp) (hN : X.N.Nodup) (hi : X.N[i]? = some x) (hx : Loc X.env.scope x) (hf : X.fn x = true) (he : PE X e (LE X.K ad W fe)) :
    PS X (.AugAssign (.Name x pos') o.op e pos) (LS X.K ad W fun env s => match env[i]? with | some (some a) => ((fe env s).st env fun d s1 => match aug2 o a d with | some r => .nx (env.set i (some r)) s1 | none => .no) | _ => .no) :=
  (ps_aug hN hi hx he (pip_aug o) (.inl hf)).imp fun D σ H ⟨m, s, env, hr, er, h⟩ => by
    dsimp only at h
    split at h
    · rename_i a ha
      obtain ⟨v, hv, rv⟩ := er.at_ i a ha
      refine ⟨v, hv, m, s, env, hr, er, h.ofE er fun d s1 m1 H1 w _ x1 hr1 rw er1 h1 => ?_⟩
      have rv := rv.mono x1.toLe
      split at h1
      · rename_i r hr2
        unfold aug2 at hr2
        split at hr2 <;> first | cases hr2 | skip
        · cases rv; cases rw
          exact ⟨_, _, rfl, rfl, .inl ⟨rfl, h1 m1 H1 _ .refl hr1 (er1.set (.int _))⟩⟩
        · cases rv; cases rw
          exact ⟨_, _, rfl, rfl, .inr ⟨rfl, h1 m1 H1 _ .refl hr1 (er1.set (.int _))⟩⟩
      · exact h1.elim
    · exact h.elim
theorem ls_ret {fe : Env → S → R D} (he : PE X e (LE X.K ad W fe)) : PS X (.Return (some e) pos) (LS X.K ad W fun env s => (fe env s).st env fun d s1 => .rt d s1) :=
  (ps_ret he).imp fun D σ H ⟨m, s, env, hr, er, h⟩ => ⟨m, s, env, hr, er, h.ofE er fun d s1 m1 H1 v _ x1 hr1 rv er1 h1 => h1 m1 H1 v .refl hr1 rv⟩
theorem ls_retN : PS X (.Return none pos) (LS X.K ad W fun env s => .rt .non s) := ps_retN.imp fun D σ H ⟨m, s, env, hr, er, h⟩ => h m H _ .refl hr .non
theorem ls_pas : PS X (.Pass pos) (LS X.K ad W fun env s => .nx env s) := ps_pass.imp fun D σ H ⟨m, s, env, hr, er, h⟩ => h m H σ .refl hr er
theorem ls_brk : PS X (.Break pos) (LS X.K ad W fun env s => .bk env s) := ps_break.imp fun D σ H ⟨m, s, env, hr, er, h⟩ => h m H σ .refl hr er
theorem ls_cnt : PS X (.Continue pos) (LS X.K ad W fun env s => .ct env s) := ps_continue.imp fun D σ H ⟨m, s, env, hr, er, h⟩ => h m H σ .refl hr er
theorem ls_if {a b : List Stmt} {fc : Env → S → R Bool} {f g : Env → S → SR} (hc : PT X c (LT X.K ad W fc)) (ha : PSs X a (LS X.K ad W f)) (hb : PSs X b (LS X.K ad W g)) :
    PS X (.If c a b pos) (LS X.K ad W fun env s => (fc env s).st env fun k s1 => if k then f env s1 else g env s1) :=
  (ps_if hc ha hb).imp fun D σ H ⟨m, s, env, hr, er, h⟩ => ⟨m, s, env, hr, er, h.ofE er fun k s1 m1 H1 v _ x1 hr1 rv er1 h1 => by
    cases rv
    cases k with
    | true => exact ⟨m1, s1, env, hr1, er1, h1⟩
    | false => exact ⟨m1, s1, env, hr1, er1, h1⟩⟩
/-! for -/
open Classical in
noncomputable def loopF (gs : Gs) (g : D → Env → Option Env) (body : Env → S → SR) : List D → Env → S → SR
  | [], env, s => if Grd gs s then .nx env s else .no
  | d :: ds, env, s => if Grd gs s then (match g d env with
      | none => .no
      | some env1 => match body env1 s with
        | .nx e s1 => loopF gs g body ds e s1
        | .ct e s1 => loopF gs g body ds e s1
        | .bk e s1 => .nx e s1
        | r => r) else .no
theorem ls_for {iter tg : Expr} {body : List Stmt} {ts : List Nat} {fi : Env → S → R (List D × Gs)} {g : D → Env → Option Env} {f : Env → S → SR} (hp : PassesOwn (model X.prog X.w) X.A X.env X.xe) (hc : X.calm = true) (hi : PI X tg iter (LI X.K ad W fi)) (hg : PG X tg (LG X.K ad ts g)) (hb : PSs X body (LS X.K ad W f)) (hs : noSet iter = true) :
    PS X (.For tg iter body [] pos) (LS X.K ad W fun env s => (fi env s).st env fun p s1 => loopF p.2 g f p.1 env s1) :=
  (ps_for hp hc hi hg hb (folded hs)).imp fun De σ H ⟨m, s, env, hr, er, h⟩ => ⟨m, s, env, hr, er, h.ofE er fun p s1 m1 H1 J _ x1 hr1 rJ er1 h1 => by
    obtain ⟨ds, gs⟩ := p
    have rJ : Wk X.K ad J ds gs m1 H1 := rJ
    have h1 : OutS X.K ad W m1 H1 De (loopF gs g f ds env s1) := h1
    refine ⟨fun i n σ' H' => n = ds.length - i ∧ i ≤ ds.length ∧ ∃ m' s' env', Ext X.K m1 H1 m' H' ∧ HR X.K ad.ca m' s' H' ∧ ER X.K m' H' σ' env' ∧ OutS X.K ad W m' H' De (loopF gs g f (ds.drop i) env' s'),
      ⟨ds.length, by simp, Nat.zero_le _, m1, s1, env, .refl, hr1, er1, by rw [List.drop_zero]; exact h1⟩, ?_⟩
    rintro i n σ' H' ⟨rfl, hi, m', s', env', x', hr', er', h'⟩
    by_cases hlt : i < ds.length
    · have hd : ds.drop i = ds[i] :: ds.drop (i + 1) := List.drop_eq_getElem_cons hlt
      rw [hd] at h'
      unfold loopF at h'
      by_cases hgd : Grd gs s'
      · rw [if_pos hgd] at h'
        refine .inr ⟨rJ.go i m' s' H' x' hr' hgd hlt, fun σ2 H2 => ∃ m' s' env', Ext X.K m1 H1 m' H2 ∧ HR X.K ad.ca m' s' H2 ∧ ER X.K m' H2 σ2 env' ∧ OutS X.K ad W m' H2 De (loopF gs g f (ds.drop (i + 1)) env' s'),
          fun σ2 H2 ⟨m2, s2, env2, a1, a2, a3, a4⟩ => ⟨_, by omega, rfl, by omega, m2, s2, env2, a1, a2, a3, a4⟩, fun v H2 hy => ?_⟩
        obtain ⟨d, hd1, x2, hr2, rd⟩ := rJ.yld i m' s' H' v H2 x' hr' hgd hlt hy
        rw [List.getElem?_eq_getElem hlt] at hd1
        have hd1 : ds[i] = d := Option.some.inj hd1
        rw [hd1] at h'
        have er2 := er'.mono x2.toLe
        refine ⟨m', s', env', d, hr2, er2, rd, ?_⟩
        cases hge : g d env' with
        | none => rw [hge] at h'; exact h'.elim
        | some env1 =>
          rw [hge] at h'
          dsimp only at h'
          refine fun σ3 er3 _ => ⟨m', s', env1, hr2, er3, ?_⟩
          have x12 := x'.trans x2
          have h' := OutS.shift h' x2
          cases hf : f env1 s' with
          | no => rw [hf] at h'; exact h'
          | nx e s2 => rw [hf] at h'; exact fun m4 H4 σ4 x4 hr4 er4 => ⟨m4, s2, e, x12.trans x4, hr4, er4, OutS.shift h' x4⟩
          | ct e s2 => rw [hf] at h'; exact fun m4 H4 σ4 x4 hr4 er4 => ⟨m4, s2, e, x12.trans x4, hr4, er4, OutS.shift h' x4⟩
          | bk e s2 => rw [hf] at h'; exact fun m4 H4 σ4 x4 hr4 er4 => h' m4 H4 σ4 x4 hr4 er4
          | rt d s2 => rw [hf] at h'; exact fun m4 H4 σ4 x4 hr4 er4 => h' m4 H4 σ4 x4 hr4 er4
          | ex c e s2 => rw [hf] at h'; exact fun m4 H4 σ4 x4 hr4 er4 => h' m4 H4 σ4 x4 hr4 er4
      · rw [if_neg hgd] at h'; exact h'.elim
    · have hl : i = ds.length := by omega
      subst hl
      rw [List.drop_length] at h'
      unfold loopF at h'
      by_cases hgd : Grd gs s'
      · rw [if_pos hgd] at h'
        exact .inl ⟨rJ.stop m' s' H' x' hr' hgd, h' m' H' σ' .refl hr' er'⟩
      · rw [if_neg hgd] at h'; exact h'.elim⟩
/-- while -/
def loopW (c : Env → S → R Bool) (body : Env → S → SR) : Nat → Env → S → SR
  | 0, _, _ => .no
  | n + 1, env, s => (c env s).st env fun k s1 => if k then (match body env s1 with
      | .nx e s2 => loopW c body n e s2
      | .ct e s2 => loopW c body n e s2
      | .bk e s2 => .nx e s2
      | r => r) else .nx env s1
theorem ls_while {body : List Stmt} {fc : Env → S → R Bool} {f : Env → S → SR} (N : Nat) (hp : PassesOwn (model X.prog X.w) X.A X.env X.xe) (hc : PT X c (LT X.K ad W fc)) (hb : PSs X body (LS X.K ad W f)) :
    PS X (.While c body [] pos) (LS X.K ad W fun env s => loopW fc f N env s) :=
  (ps_while hp hc hb).imp fun De σ H ⟨m, s, env, hr, er, h⟩ => by
    refine ⟨fun n σ' H' => ∃ m' s' env', Ext X.K m H m' H' ∧ HR X.K ad.ca m' s' H' ∧ ER X.K m' H' σ' env' ∧ OutS X.K ad W m' H' De (loopW fc f n env' s'), ⟨N, m, s, env, .refl, hr, er, h⟩, ?_⟩
    rintro n σ' H' ⟨m', s', env', x', hr', er', h'⟩
    cases n with
    | zero => exact h'.elim
    | succ n =>
      unfold loopW at h'
      refine ⟨m', s', env', hr', er', h'.ofE er' fun k s1 m1 H1 v _ x1 hr1 rv er1 h1 => ?_⟩
      cases rv
      cases k with
      | false => simp only [Bool.false_eq_true, if_false] at h1 ⊢; exact h1 m1 H1 σ' .refl hr1 er1
      | true =>
        simp only [if_true] at h1 ⊢
        refine ⟨fun σ2 H2 => ∃ m' s' env', Ext X.K m H m' H2 ∧ HR X.K ad.ca m' s' H2 ∧ ER X.K m' H2 σ2 env' ∧ OutS X.K ad W m' H2 De (loopW fc f n env' s'), fun σ2 H2 q => ⟨n, Nat.lt_succ_self _, q⟩, m1, s1, env', hr1, er1, ?_⟩
        have x12 := x'.trans x1
        cases hf : f env' s1 with
        | no => rw [hf] at h1; exact h1
        | nx e s2 => rw [hf] at h1; exact fun m4 H4 σ4 x4 hr4 er4 => ⟨m4, s2, e, x12.trans x4, hr4, er4, OutS.shift h1 x4⟩
        | ct e s2 => rw [hf] at h1; exact fun m4 H4 σ4 x4 hr4 er4 => ⟨m4, s2, e, x12.trans x4, hr4, er4, OutS.shift h1 x4⟩
        | bk e s2 => rw [hf] at h1; exact fun m4 H4 σ4 x4 hr4 er4 => h1 m4 H4 σ4 x4 hr4 er4
        | rt d s2 => rw [hf] at h1; exact fun m4 H4 σ4 x4 hr4 er4 => h1 m4 H4 σ4 x4 hr4 er4
        | ex c e s2 => rw [hf] at h1; exact fun m4 H4 σ4 x4 hr4 er4 => h1 m4 H4 σ4 x4 hr4 er4
end
end T
set_option Elab.async false
set_option linter.all false
set_option maxRecDepth 100000
set_option maxHeartbeats 4000000
/-! TLz: list(zip(a, b)) of two tuples. -/
namespace T.ZL
open PySem PySem.Spec L2
open PyProof.Rows hiding St
section
variable {pg : Program} {ww : World} {Ar : Around} {Ex : Value → Shared → Prop} {st : Shared}
/-- the pair that was handed out first stands still: a new one is made -/
theorem more {z ti tout t0 ia ib la lb : Addr} {fl : Bool} {ob : Obj} {ka kb : Nat} {us vs : Array Value} {u v : Value} {Qx : Value → Shared → Prop} (ap : ZipApart z ti tout ia ib la lb)
    (qz : IsZipHeld st.heap z ti tout t0 fl) (q0 : st.heap.get? t0 = some ob) (qi : IsPair st.heap ti (.ref ia) (.ref ib))
    (ga : st.heap.IsTupleIter ia la ka) (gb : st.heap.IsTupleIter ib lb kb) (ta : st.heap.IsTuple la us) (tb : st.heap.IsTuple lb vs) (eu : us[ka]? = some u) (ev : vs[kb]? = some v)
    (go : ∀ hq, IsZipHeld hq z ti tout t0 true → hq.IsTupleIter ia la (ka + 1) → hq.IsTupleIter ib lb (kb + 1) → IsPair hq st.heap.objs.size u v → hq.objs.size = st.heap.objs.size + 1 →
      (∀ c o, c ≠ z → c ≠ ia → c ≠ ib → st.heap.get? c = some o → hq.get? c = some o) → Qx (.ref st.heap.objs.size) { st with heap := hq }) :
    wpAny (model pg ww) Ar (Builtin.«zip.__next__» ⟨[.ref z], []⟩) (fun r s2 => ∃ x, r = .done (.ret x) ∧ Qx x s2) Ex st := by
  show wpAny (model pg ww) Ar (field (.ref z) 2 >>= _) _ Ex st
  apply wpAny_bind; refine wpAny_field (x := .bool false) qz rfl rfl ?_
  show wpAny (model pg ww) Ar (field (.ref z) 3 >>= _) _ Ex st
  apply wpAny_bind; refine wpAny_field (x := .ref ti) qz rfl rfl ?_
  apply wpAny_bind; refine wpAny_seqItems qi rfl ?_
  show wpAny (model pg ww) Ar (Builtin.SmallTypes.ownedTupleIsFree (.ref z) >>= _) _ Ex st
  apply wpAny_bind; refine wpAny_tupleHeld_zip qz q0 fun hA zA sA => ?_
  simp only [Bool.false_eq_true, if_false]
  apply wpAny_bind
  simp only [← Array.forIn_toList, List.forIn_cons, List.forIn_nil]
  apply wpAny_bind; apply wpAny_bind; refine wpAny_holding ?_
  show wpAny (model pg ww) Ar (Builtin.SmallTypes.nextOf (.ref ia) >>= _) _ Ex _
  apply wpAny_bind; refine RZ.nextOf_tuple_item (s := { st with heap := hA }) (ga.extBut sA.extBut ap.i1z) (ta.extBut sA.extBut ap.l1z) eu fun hB gB sB => ?_
  refine wpAny_pure (wpAny_pure ?_)
  apply wpAny_bind; apply wpAny_bind; refine wpAny_holding ?_
  show wpAny (model pg ww) Ar (Builtin.SmallTypes.nextOf (.ref ib) >>= _) _ Ex _
  apply wpAny_bind; refine RZ.nextOf_tuple_item (s := { st with heap := hB }) ((gb.extBut sA.extBut ap.i2z).extBut sB.extBut ap.i12.symm) ((tb.extBut sA.extBut ap.l2z).extBut sB.extBut ap.l2i1) ev fun hC gC sC => ?_
  refine wpAny_pure (wpAny_pure (wpAny_pure ?_))
  show wpAny (model pg ww) Ar (newTuple [u, v] >>= _) _ Ex _
  apply wpAny_bind; refine wpAny_newTuple ?_
  have eS : hC.objs.size = st.heap.objs.size := by rw [sC.1, sB.1, sA.1]
  have zC : IsZipHeld hC z ti tout t0 true := sC.extBut _ _ ap.i2z.symm (sB.extBut _ _ ap.i1z.symm zA)
  have kC : ∀ c o, c ≠ z → c ≠ ia → c ≠ ib → st.heap.get? c = some o → hC.get? c = some o := fun c o n1 n2 n3 e => sC.extBut _ _ n3 (sB.extBut _ _ n2 (sA.extBut _ _ n1 e))
  have gA : hC.IsTupleIter ia la (ka + 1) := gB.extBut sC.extBut ap.i12
  refine wpAny_pure ⟨_, rfl, ?_⟩
  show Qx (.ref hC.objs.size) _
  have np : IsPair (hC.push { cls := .type "tuple", data := .seq #[u, v] }) hC.objs.size u v := Heap.get?_push_size _ rfl
  have nz : (hC.push { cls := .type "tuple", data := .seq #[u, v] }).objs.size = hC.objs.size + 1 := Heap.size_push ..
  rw [eS] at np nz ⊢
  exact go _ (Heap.get?_push_of_some _ zC) (gA.at fun o e => Heap.get?_push_of_some _ e) (gC.at fun o e => Heap.get?_push_of_some _ e) np nz fun c o n1 n2 n3 e => Heap.get?_push_of_some _ (kC c o n1 n2 n3 e)
theorem over {z ti tout t0 ia ib la lb : Addr} {fl : Bool} {ob : Obj} {ka : Nat} {us : Array Value} {Qx : Fin → Shared → Prop} (nh : Ar.handled = none) (ap : ZipApart z ti tout ia ib la lb)
    (qz : IsZipHeld st.heap z ti tout t0 fl) (q0 : st.heap.get? t0 = some ob) (qi : IsPair st.heap ti (.ref ia) (.ref ib))
    (ga : st.heap.IsTupleIter ia la ka) (ta : st.heap.IsTuple la us) (eu : us[ka]? = none)
    (go : ∀ hq e, (∀ c o, c ≠ z → c ≠ ia → st.heap.get? c = some o → hq.get? c = some o) → (∃ o, hq.get? e = some o ∧ o.cls = .type "StopIteration") → Ex (.ref e) { st with heap := hq }) :
    wpAny (model pg ww) Ar (Builtin.«zip.__next__» ⟨[.ref z], []⟩) Qx Ex st := by
  show wpAny (model pg ww) Ar (field (.ref z) 2 >>= _) _ Ex st
  apply wpAny_bind; refine wpAny_field (x := .bool false) qz rfl rfl ?_
  show wpAny (model pg ww) Ar (field (.ref z) 3 >>= _) _ Ex st
  apply wpAny_bind; refine wpAny_field (x := .ref ti) qz rfl rfl ?_
  apply wpAny_bind; refine wpAny_seqItems qi rfl ?_
  show wpAny (model pg ww) Ar (Builtin.SmallTypes.ownedTupleIsFree (.ref z) >>= _) _ Ex st
  apply wpAny_bind; refine wpAny_tupleHeld_zip qz q0 fun hA zA sA => ?_
  simp only [Bool.false_eq_true, if_false]
  apply wpAny_bind
  simp only [← Array.forIn_toList, List.forIn_cons, List.forIn_nil]
  apply wpAny_bind; apply wpAny_bind; refine wpAny_holding ?_
  show wpAny (model pg ww) Ar (Builtin.SmallTypes.nextOf (.ref ia) >>= _) _ Ex _
  apply wpAny_bind; refine RZ.nextOf_tuple_end (s := { st with heap := hA }) nh (ga.extBut sA.extBut ap.i1z) (ta.extBut sA.extBut ap.l1z) eu fun hB e sB he => ?_
  exact go hB e (fun c o n1 n2 q => sB _ _ n2 (sA.extBut _ _ n1 q)) he
/-- how a zip of two tuples stands behind i pairs -/
structure Zs (h : Heap) (z ti tout ia ib la lb sl : Addr) (i : Nat) : Prop where
  ti_ : IsPair h ti (.ref ia) (.ref ib)
  to_ : ∃ a b, IsPair h tout a b
  ga : h.IsTupleIter ia la i
  gb : h.IsTupleIter ib lb i
  zz : IsZip h z ti tout .none ∧ i = 0 ∨ ∃ t0 fl ob, IsZipHeld h z ti tout t0 fl ∧ h.get? t0 = some ob ∧ t0 ≠ z ∧ t0 ≠ ia ∧ t0 ≠ ib ∧ t0 ≠ sl
theorem Zs.keep {h h' : Heap} {z ti tout ia ib la lb sl : Addr} {i : Nat} (q : Zs h z ti tout ia ib la lb sl i) (k : ∀ b o, b ≠ sl → h.get? b = some o → h'.get? b = some o) (hz : z ≠ sl) (h1 : ti ≠ sl) (h2 : tout ≠ sl) (h3 : ia ≠ sl) (h4 : ib ≠ sl) : Zs h' z ti tout ia ib la lb sl i := by
  obtain ⟨a1, ⟨x, y, a2⟩, a3, a4, a5⟩ := q
  refine ⟨k _ _ h1 a1, ⟨x, y, k _ _ h2 a2⟩, a3.at fun o e => k _ o h3 e, a4.at fun o e => k _ o h4 e, ?_⟩
  rcases a5 with ⟨b1, b2⟩ | ⟨t0, fl, ob, b1, b2, b3, b4, b5, b6⟩
  · exact .inl ⟨k _ _ hz b1, b2⟩
  · exact .inr ⟨t0, fl, ob, k _ _ hz b1, k _ _ b6 b2, b3, b4, b5, b6⟩
theorem nxt {z ti tout ia ib la lb sl : Addr} {i : Nat} {us vs : Array Value} {u v : Value} {Qx : Option Value → Shared → Prop} (ap : ZipApart z ti tout ia ib la lb) (q : Zs st.heap z ti tout ia ib la lb sl i) (hsl : sl < st.heap.objs.size)
    (ta : st.heap.IsTuple la us) (tb : st.heap.IsTuple lb vs) (eu : us[i]? = some u) (ev : vs[i]? = some v)
    (go : ∀ hq, Zs hq z ti tout ia ib la lb sl (i + 1) → IsPair hq st.heap.objs.size u v → hq.objs.size = st.heap.objs.size + 1 →
      (∀ c o, c ≠ z → c ≠ tout → c ≠ ia → c ≠ ib → st.heap.get? c = some o → hq.get? c = some o) → Qx (some (.ref st.heap.objs.size)) { st with heap := hq }) :
    wpAny (model pg ww) Ar (pyNext (.ref z)) Qx Ex st := by
  obtain ⟨a1, ⟨x, y, a2⟩, a3, a4, a5⟩ := q
  have sza : z < st.heap.objs.size := by rcases a5 with ⟨b1, _⟩ | ⟨_, _, _, b1, _⟩ <;> exact Heap.lt_size b1
  have sia : ia < st.heap.objs.size := by obtain ⟨_, e, _⟩ := a3; exact Heap.lt_size e
  have sib : ib < st.heap.objs.size := by obtain ⟨_, e, _⟩ := a4; exact Heap.lt_size e
  rcases a5 with ⟨b1, rfl⟩ | ⟨t0, fl, ob, b1, b2, b3, b4, b5, b6⟩
  · refine RZ.pyNext_zipT_item ap b1 a1 a2 a3 a4 ta tb eu ev fun hq z1 p1 g1 g2 np nz kq => ?_
    refine go hq ⟨kq _ _ ap.TIz ap.TITO ap.TIi1 ap.TIi2 a1, ⟨_, _, p1⟩, g1, g2, .inr ⟨_, false, _, z1, np, Nat.ne_of_gt sza, Nat.ne_of_gt sia, Nat.ne_of_gt sib, Nat.ne_of_gt hsl⟩⟩ np nz kq
  · have tyz : st.TypeIs (.ref z) "zip" := ⟨_, b1, rfl⟩
    unfold pyNext
    refine wpAny_bind (wpAny_attempt (wpAny_callSpecial?_slot (name := Str.ofString "__next__") tyz F.slot_zip_next (wpAny_call_entry F.slot_zip_next tyz F.entry_zip_next ?_ (F.args_zip_next_1 _))))
    refine more ap b1 b2 a1 a3 a4 ta tb eu ev fun hq z1 g1 g2 np nz kq => wpAny_pure ?_
    have nto : ∀ c, c < st.heap.objs.size → c ≠ st.heap.objs.size := fun c h => Nat.ne_of_lt h
    exact go hq ⟨kq _ _ ap.TIz ap.TIi1 ap.TIi2 a1, ⟨x, y, kq _ _ ap.TOz ap.TOi1 ap.TOi2 a2⟩, g1, g2, .inr ⟨t0, true, ob, z1, kq _ _ b3 b4 b5 b2, b3, b4, b5, b6⟩⟩ np nz fun c o n1 _ n3 n4 e => kq c o n1 n3 n4 e
theorem fin {z ti tout ia ib la lb sl : Addr} {i : Nat} {us vs : Array Value} {Qx : Option Value → Shared → Prop} (nh : Ar.handled = none) (ap : ZipApart z ti tout ia ib la lb) (q : Zs st.heap z ti tout ia ib la lb sl i)
    (ta : st.heap.IsTuple la us) (tb : st.heap.IsTuple lb vs) (eu : us[i]? = none)
    (go : ∀ hq, (∀ c o, c ≠ z → c ≠ tout → c ≠ ia → c ≠ ib → st.heap.get? c = some o → hq.get? c = some o) → Qx none { st with heap := hq }) :
    wpAny (model pg ww) Ar (pyNext (.ref z)) Qx Ex st := by
  obtain ⟨a1, ⟨x, y, a2⟩, a3, a4, a5⟩ := q
  rcases a5 with ⟨b1, rfl⟩ | ⟨t0, fl, ob, b1, b2, b3, b4, b5, b6⟩
  · exact RZ.pyNext_zipT_end nh ap b1 a1 a2 a3 a4 ta tb (.inl eu) go
  · have tyz : st.TypeIs (.ref z) "zip" := ⟨_, b1, rfl⟩
    unfold pyNext
    refine wpAny_bind (wpAny_attempt (wpAny_callSpecial?_slot (name := Str.ofString "__next__") tyz F.slot_zip_next (wpAny_call_entry F.slot_zip_next tyz F.entry_zip_next ?_ (F.args_zip_next_1 _))))
    refine over nh ap b1 b2 a1 a3 ta eu fun hq e kq he => ?_
    obtain ⟨o, ho, hc⟩ := he
    refine wpAny_bind (wpAny_isInstance (T := "StopIteration") (b := true) ⟨o, ho, hc⟩ isSubtype_stop ?_)
    exact wpAny_pure (go hq fun c o n1 _ n3 _ e => kq c o n1 n3 e)
end
/-- the pairs that were made -/
structure Pairs (us vs : Array Value) (lo : Addr) (h : Heap) (as : List Addr) : Prop where
  inc : as.Pairwise (· < ·)
  up : ∀ a ∈ as, lo < a
  is : ∀ (j : Nat) (a : Addr), as[j]? = some a → ∃ u v, us[j]? = some u ∧ vs[j]? = some v ∧ IsPair h a u v
theorem Pairs.lt {us vs : Array Value} {lo : Addr} {h : Heap} {as : List Addr} (g : Pairs us vs lo h as) {a : Addr} (ha : a ∈ as) : a < h.objs.size := by
  obtain ⟨j, hj⟩ := List.getElem?_of_mem ha
  obtain ⟨_, _, _, _, e⟩ := g.is j a hj
  exact Heap.lt_size e
section
variable {pg : Program} {ww : World} {Ar : Around} {st : Shared} {R : Result → Shared → Prop} {us vs : Array Value}
theorem loop {S z ti tout ia ib la lb : Addr} (nh : Ar.handled = none) (ap : ZipApart z ti tout ia ib la lb) (nS : ∀ c ∈ [z, ti, tout, ia, ib, la, lb], c ≠ S) (cl : ∀ c ∈ [z, ti, tout, ia, ib], c < S) (sz : us.size = vs.size) (hn : us.size ≤ sizeLine) (res : Value) {h1 : Heap}
    (out : ∀ h' tk acc c as, (∀ b o, b ≠ S → b ∉ [z, tout, ia, ib] → h1.get? b = some o → h'.get? b = some o) → h'.get? S = some { cls := .type "list", dict := none, data := .seq acc c, slots := #[] } → as.length = us.size → Pairs us vs S h' as →
      acc.toList = as.map Value.ref → R (.ok (.ret res)) { st with heap := h', toks := tk }) :
    ∀ (k i : Nat) (h : Heap) (tk c : Nat) (acc : Array Value) (as : List Addr), us.size - i = k → i ≤ us.size → Zs h z ti tout ia ib la lb S i → h.IsTuple la us → h.IsTuple lb vs → (∀ b o, b ≠ S → b ∉ [z, tout, ia, ib] → h1.get? b = some o → h.get? b = some o) →
      h.get? S = some { cls := .type "list", dict := none, data := .seq acc c, slots := #[] } → acc.toList = as.map Value.ref → as.length = i → Pairs us vs S h as →
      codeAny (model pg ww) Ar (.builtin "list.extend.loop" ⟨[.ref S, .ref z, res], []⟩) R { st with heap := h, toks := tk } := by
  simp only [List.mem_cons, List.not_mem_nil, or_false, forall_eq_or_imp, forall_eq] at nS cl
  obtain ⟨nz, nti, nto, nia, nib, nla, nlb⟩ := nS
  obtain ⟨cz, cti, cto, cia, cib⟩ := cl
  have lab : ∀ {h h' : Heap}, (∀ c o, c ≠ z → c ≠ tout → c ≠ ia → c ≠ ib → h.get? c = some o → h'.get? c = some o) → h.IsTuple la us → h.IsTuple lb vs → h'.IsTuple la us ∧ h'.IsTuple lb vs := fun k ta tb =>
    ⟨ta.at fun o e => k _ o ap.l1z ap.l1TO ap.l1i1 ap.l1i2 e, tb.at fun o e => k _ o ap.l2z ap.l2TO ap.l2i1 ap.l2i2 e⟩
  intro k
  induction k with
  | zero =>
    intro i h tk c acc as hk hi hst ta tb hkeep hSS hacc hal hG
    refine codeAny_builtin F.entry_extend_loop ?_
    rw [Around.under_plainId F.plain_extend_loop _]
    show wpAny (model pg ww) Ar.in1 (pyNext (.ref z) >>= _) _ _ _
    refine wpAny_bind (fin (st := { st with heap := h, toks := tk }) (Ar := Ar.in1) nh ap hst ta tb (Array.getElem?_eq_none (by omega)) fun hq kq => ?_)
    refine wpAny_pure (out hq tk acc c as (fun b o n1 n2 e => ?_) (kq S _ (Ne.symm nz) (Ne.symm nto) (Ne.symm nia) (Ne.symm nib) hSS) (by omega) ⟨hG.inc, hG.up, fun j a hj => ?_⟩ hacc)
    · simp only [List.mem_cons, List.not_mem_nil, or_false, not_or] at n2
      exact kq b o n2.1 n2.2.1 n2.2.2.1 n2.2.2.2 (hkeep b o n1 (by simp [n2]) e)
    · obtain ⟨u, v, e1, e2, e3⟩ := hG.is j a hj
      have := hG.up a (List.mem_of_getElem? hj)
      exact ⟨u, v, e1, e2, kq a _ (Nat.ne_of_gt (Nat.lt_trans cz this)) (Nat.ne_of_gt (Nat.lt_trans cto this)) (Nat.ne_of_gt (Nat.lt_trans cia this)) (Nat.ne_of_gt (Nat.lt_trans cib this)) e3⟩
  | succ k ih =>
    intro i h tk c acc as hk hi hst ta tb hkeep hSS hacc hal hG
    have hlt : i < us.size := by omega
    have hac : acc.size = i := by rw [← Array.length_toList, hacc, List.length_map, hal]
    have hSl : S < h.objs.size := Heap.lt_size hSS
    refine codeAny_builtin F.entry_extend_loop ?_
    rw [Around.under_plainId F.plain_extend_loop _]
    show wpAny (model pg ww) Ar.in1 (pyNext (.ref z) >>= _) _ _ _
    have eu : us[i]? = some us[i] := Array.getElem?_eq_getElem hlt
    have ev : vs[i]? = some (vs[i]'(by omega)) := Array.getElem?_eq_getElem _
    refine wpAny_bind (nxt (st := { st with heap := h, toks := tk }) (sl := S) ap hst hSl ta tb eu ev fun hq zq np nsz kq => ?_)
    dsimp only at np nsz kq ⊢
    have hS2 := kq S _ (Ne.symm nz) (Ne.symm nto) (Ne.symm nia) (Ne.symm nib) hSS
    have upd1 : ∀ b o, b ≠ S → hq.get? b = some o → (hq.update S (Obj.mapSeq (·.push (Value.ref h.objs.size)))).get? b = some o := fun b o hb e => (Heap.get?_update_other _ _ (Ne.symm hb)).trans e
    obtain ⟨ta2, tb2⟩ := lab kq ta tb
    show wpAny (model pg ww) Ar.in1 (updateSeq S (·.push (Value.ref h.objs.size)) >>= _) _ _ _
    apply wpAny_bind
    refine wpAny_updateSeq hS2 rfl (wpAny_pure ⟨plainId_quiet F.plain_extend_loop _, ih (i + 1) _ tk _ (acc.push (Value.ref h.objs.size)) (as ++ [h.objs.size]) (by omega) hlt (zq.keep upd1 nz nti nto nia nib)
      (ta2.at fun o e => upd1 la o nla e) (tb2.at fun o e => upd1 lb o nlb e) (fun b o n1 n2 e => ?_) (Heap.get?_update_self _ hS2 rfl) (by rw [Array.toList_push, hacc, List.map_append]; rfl) (by rw [List.length_append, hal]; rfl) ⟨?_, ?_, ?_⟩⟩)
      (by rw [hac]; omega) (by show (acc.push (Value.ref h.objs.size)).size ≤ sizeLine + 1; rw [Array.size_push, hac]; omega)
    · have n3 := n2
      simp only [List.mem_cons, List.not_mem_nil, or_false, not_or] at n3
      exact upd1 b o n1 (kq b o n3.1 n3.2.1 n3.2.2.1 n3.2.2.2 (hkeep b o n1 n2 e))
    · rw [List.pairwise_append]
      refine ⟨hG.inc, List.pairwise_singleton _ _, fun a ha b hb => ?_⟩
      rw [List.mem_singleton] at hb
      rw [hb]; exact hG.lt ha
    · intro a ha
      rcases List.mem_append.mp ha with q | q
      · exact hG.up a q
      · rw [List.mem_singleton] at q; rw [q]; exact hSl
    · intro j b hj
      by_cases c1 : j < as.length
      · rw [List.getElem?_append_left c1] at hj
        obtain ⟨u, v, e1, e2, e3⟩ := hG.is j b hj
        have hb := hG.up b (List.mem_of_getElem? hj)
        exact ⟨u, v, e1, e2, upd1 b _ (Nat.ne_of_gt hb) (kq b _ (Nat.ne_of_gt (Nat.lt_trans cz hb)) (Nat.ne_of_gt (Nat.lt_trans cto hb)) (Nat.ne_of_gt (Nat.lt_trans cia hb)) (Nat.ne_of_gt (Nat.lt_trans cib hb)) e3)⟩
      · by_cases c2 : j = as.length
        · subst c2
          rw [List.getElem?_append_right (Nat.le_refl _)] at hj
          simp at hj
          subst hj
          rw [hal]
          exact ⟨_, _, eu, ev, upd1 _ _ (Nat.ne_of_gt hSl) np⟩
        · rw [List.getElem?_eq_none (by rw [List.length_append, List.length_singleton]; omega)] at hj
          cases hj
theorem zip_len : typeLookup (.type "zip") "__len__" = pure none := by rw [typeLookup_type, builtinLookup_eq_fast]; kernel_rfl
theorem zip_lh : typeLookup (.type "zip") "__length_hint__" = pure none := by rw [typeLookup_type, builtinLookup_eq_fast]; kernel_rfl
/-- list.__init__ of a new list and a zip at its start -/
theorem init_ {S z ti tout ia ib la lb : Addr} (nh : Ar.handled = none) (ap : ZipApart z ti tout ia ib la lb) (nS : ∀ c ∈ [z, ti, tout, ia, ib, la, lb], c ≠ S) (cl : ∀ c ∈ [z, ti, tout, ia, ib], c < S) (sz : us.size = vs.size) (hn : us.size ≤ sizeLine)
    (q : Zs st.heap z ti tout ia ib la lb S 0) (zz : IsZip st.heap z ti tout .none) (ta : st.heap.IsTuple la us) (tb : st.heap.IsTuple lb vs) (hSS : st.heap.get? S = some { cls := .type "list", data := .seq #[] })
    (out : ∀ h' tk acc c as, (∀ b o, b ≠ S → b ∉ [z, tout, ia, ib] → st.heap.get? b = some o → h'.get? b = some o) → h'.get? S = some { cls := .type "list", dict := none, data := .seq acc c, slots := #[] } → as.length = us.size → Pairs us vs S h' as →
      acc.toList = as.map Value.ref → R (.ok (.ret .none)) { st with heap := h', toks := tk }) :
    wpAny (model pg ww) Ar.in1 (Builtin.«list.__init__» ⟨[.ref S, .ref z], []⟩)
      (fun f s' => match f with | .done f => R (.ok f) s' | .again c' => c'.quiet = true ∧ codeAny (model pg ww) Ar c' R s') (fun e s' => R (.error e) s') st := by
  have sub : ∀ {h h' : Heap}, (∀ b o, b ≠ S → h.get? b = some o → h'.get? b = some o) → Zs h z ti tout ia ib la lb S 0 → h.IsTuple la us → h.IsTuple lb vs → Zs h' z ti tout ia ib la lb S 0 ∧ h'.IsTuple la us ∧ h'.IsTuple lb vs := fun k q ta tb => by
    simp only [List.mem_cons, List.not_mem_nil, or_false, forall_eq_or_imp, forall_eq] at nS
    obtain ⟨nz, nti, nto, nia, nib, nla, nlb⟩ := nS
    exact ⟨q.keep k nz nti nto nia nib, ta.at fun o e => k _ o nla e, tb.at fun o e => k _ o nlb e⟩
  have zty : ∀ {h : Heap} {tk : Nat}, Zs h z ti tout ia ib la lb S 0 → ({ st with heap := h, toks := tk } : Shared).TypeIs (.ref z) "zip" := fun q => by
    rcases q.zz with ⟨b1, _⟩ | ⟨_, _, _, b1, _⟩ <;> exact ⟨_, b1, rfl⟩
  show wpAny (model pg ww) Ar.in1 (do let old ← Builtin.List.listItems (.ref S); Builtin.List.listUpdate (.ref S) (fun _ => #[]); letGo old.toList.reverse; Builtin.List.listExtendWith (.ref S) (.ref z) .none) _ _ st
  apply wpAny_bind
  unfold Builtin.List.listItems
  apply wpAny_bind; refine wpAny_seqItems hSS rfl (wpAny_pure ?_)
  show wpAny (model pg ww) Ar.in1 (updateSeq S (fun _ => #[]) >>= fun _ => letGo (#[] : Array Value).toList.reverse >>= fun _ => Builtin.List.listExtendWith (.ref S) (.ref z) .none) _ _ st
  apply wpAny_bind; refine wpAny_updateSeq hSS rfl ?_
  have e1 := Heap.get?_update_self (Obj.mapSeq (fun _ => (#[] : Array Value))) hSS rfl
  have k1 : ∀ b o, b ≠ S → st.heap.get? b = some o → (st.heap.update S (Obj.mapSeq (fun _ => (#[] : Array Value)))).get? b = some o := fun b o hb e => (Heap.get?_update_other _ _ (Ne.symm hb)).trans e
  generalize st.heap.update S (Obj.mapSeq (fun _ => (#[] : Array Value))) = hA at e1 k1
  obtain ⟨q1, ta1, tb1⟩ := sub k1 q ta tb
  apply wpAny_bind; refine wpAny_letGo ?_
  unfold Builtin.List.listExtendWith
  apply wpAny_bind; refine wpAny_typeOf (T := "zip") (zty (tk := st.toks) q1) ?_
  have nSz : S ≠ z := by have := nS z (by simp); exact Ne.symm this
  have c1 : Builtin.List.listSameRef (.ref S) (.ref z) = false := by simp [Builtin.List.listSameRef, nSz]
  have c2 : (Value.type "zip" == Value.type "list") = false := by decide
  have c3 : (Value.type "zip" == Value.type "tuple") = false := by decide
  simp only [c1, c2, c3, Bool.or_false, Bool.false_eq_true, if_false]
  apply wpAny_bind
  have itz : ∀ {Qx : Value → Shared → Prop} {Ex : Value → Shared → Prop}, Qx (.ref z) { st with heap := hA } → wpAny (model pg ww) Ar.in1 (pyIter (.ref z)) Qx Ex { st with heap := hA } := fun h => by
    exact wpAny_pyIter_zip (k1 _ _ (nS z (by simp)) zz) h
  refine itz ?_
  apply wpAny_bind; refine wpAny_holding ?_
  unfold Builtin.List.listLengthHint
  apply wpAny_bind; refine wpAny_specialOf (zty (tk := st.toks) q1) zip_len ?_
  show wpAny (model pg ww) Ar.in1 (specialOf (Value.ref z) (Str.ofString "__length_hint__") >>= _) _ _ _
  apply wpAny_bind; refine wpAny_specialOf (zty (tk := st.toks) q1) zip_lh ?_
  refine wpAny_pure ?_
  show wpAny (model pg ww) Ar.in1 (rule "list.extend.makes-room" >>= fun _ => Builtin.List.listTouch (.ref S) >>= fun _ => again (.builtin "list.extend.loop" ⟨[.ref S, .ref z, .none], []⟩)) _ _ _
  apply wpAny_bind; refine wpAny_rule ?_
  apply wpAny_bind
  show wpAny (model pg ww) Ar.in1 (updateSeq S (·.push .none) >>= fun _ => updateSeq S (·.pop)) _ _ _
  apply wpAny_bind; refine wpAny_updateSeq (s := { st with heap := hA }) e1 rfl ?_
  have e2 := Heap.get?_update_self (Obj.mapSeq (·.push Value.none)) e1 rfl
  refine wpAny_updateSeq (hz := by seq_fits) e2 rfl ?_
  have e3 := Heap.get?_update_self (Obj.mapSeq (·.pop)) e2 rfl
  have k3 : ∀ b o, b ≠ S → hA.get? b = some o → ((hA.update S (Obj.mapSeq (·.push Value.none))).update S (Obj.mapSeq (·.pop))).get? b = some o := fun b o hb e => (Heap.get?_update_other _ _ (Ne.symm hb)).trans ((Heap.get?_update_other _ _ (Ne.symm hb)).trans e)
  obtain ⟨q3, ta3, tb3⟩ := sub k3 q1 ta1 tb1
  refine wpAny_pure ⟨plainId_quiet F.plain_extend_loop _, loop (st := st) (h1 := st.heap) nh ap nS cl sz hn .none out us.size 0 _ st.toks _ #[] [] (Nat.sub_zero _) (Nat.zero_le _) q3 ta3 tb3 (fun b o hb _ e => k3 b o hb (k1 b o hb e)) e3 rfl rfl ⟨List.Pairwise.nil, (fun _ h => nomatch h), fun j a hj => by simp at hj⟩⟩
/-- list(z), z a zip of two tuples at its start -/
theorem list_of {Ex : Value → Shared → Prop} {Qx : Value → Shared → Prop} {z ti tout ia ib la lb : Addr} (nh : Ar.handled = none) (ap : ZipApart z ti tout ia ib la lb) (cl : ∀ c ∈ [z, ti, tout, ia, ib, la, lb], c < st.heap.objs.size) (sz : us.size = vs.size) (hn : us.size ≤ sizeLine)
    (zz : IsZip st.heap z ti tout .none) (qi : IsPair st.heap ti (.ref ia) (.ref ib)) (qo : ∃ a b, IsPair st.heap tout a b) (ga : st.heap.IsTupleIter ia la 0) (gb : st.heap.IsTupleIter ib lb 0) (ta : st.heap.IsTuple la us) (tb : st.heap.IsTuple lb vs)
    (out : ∀ h' tk acc c as, (∀ b o, b ∉ [z, tout, ia, ib] → st.heap.get? b = some o → h'.get? b = some o) → h'.get? st.heap.objs.size = some { cls := .type "list", dict := none, data := .seq acc c, slots := #[] } → as.length = us.size → Pairs us vs st.heap.objs.size h' as →
      acc.toList = as.map Value.ref → Qx (.ref st.heap.objs.size) { st with heap := h', toks := tk }) :
    wpAny (model pg ww) Ar (call (.type "list") [.ref z]) Qx Ex st := by
  refine callType_codes (Q₁ := fun ob s1 => ob = .ref st.heap.objs.size ∧ s1 = { st with heap := st.heap.push { cls := .type "list", data := .seq #[] } }) F.called_list (F.typeCall_list_1 _) F.entry_list_init (code_list_new _ ⟨rfl, rfl⟩) fun ob s1 hs => ?_
  obtain ⟨rfl, rfl⟩ := hs
  have eS : (st.heap.push { cls := .type "list", data := .seq #[] }).get? st.heap.objs.size = some { cls := .type "list", data := .seq #[] } := Heap.get?_push_size _ rfl
  have k0 : ∀ b o, st.heap.get? b = some o → (st.heap.push { cls := .type "list", data := .seq #[] }).get? b = some o := fun b o e => Heap.get?_push_of_some _ e
  obtain ⟨oa, ob, qo⟩ := qo
  refine ⟨⟨_, eS, rfl⟩, F.args_list_init_2 _ _, init_ (Ar := Ar.in1) nh ap (fun c hc => Nat.ne_of_lt (cl c hc)) (fun c hc => cl c (by simp only [List.mem_cons, List.not_mem_nil, or_false] at hc ⊢; rcases hc with h | h | h | h | h <;> simp [h])) sz hn
    ⟨k0 _ _ qi, ⟨oa, ob, k0 _ _ qo⟩, ga.at fun o e => k0 _ o e, gb.at fun o e => k0 _ o e, .inl ⟨k0 _ _ zz, rfl⟩⟩ (k0 _ _ zz) (ta.at fun o e => k0 _ o e) (tb.at fun o e => k0 _ o e) eS fun h' tk acc c as hk hS hl hP hacc => ⟨rfl, ?_⟩⟩
  exact out h' tk acc c as (fun b o hb e => hk b o (Nat.ne_of_lt (Heap.lt_size e)) hb (k0 b o e)) hS hl hP hacc
end
end T.ZL
set_option Elab.async false
set_option linter.all false
set_option maxRecDepth 100000
set_option maxHeartbeats 4000000
/-! TLy: list(zip(a, b)), in the layer. -/
namespace T
open PySem PySem.Spec L2
open PyProof.Rows hiding St
def lzipL (ds : List D) (s : S) : Option (D × S) := match ds with
  | [.tup xs, .tup ys] => if xs.length = ys.length then some (.ref s.length, s ++ [.lst (zipD xs ys)]) else none
  | _ => none
/-- a heap in which all of the old one stands -/
theorem HR.more {K : PySem.W.Frag} {ca : Nat → Addr} {m : List Addr} {s : S} {H H2 : Hp} (hr : HR K ca m s H) (g : ∀ b o, H b = some o → H2 b = some o) : HR K ca m s H2 ∧ Ext K m H m H2 := by
  have le : Le K m H m H2 := ⟨fun _ _ h => h, fun b xs h => by
      rcases h with (h | ⟨o, h⟩) | h
      · exact .inl (.inl (g _ _ h))
      · exact .inl (.inr ⟨o, g _ _ h⟩)
      · exact .inr h, fun b xs h => by
      rcases h with ⟨o, h⟩ | h
      · exact .inl ⟨o, g _ _ h⟩
      · exact .inr h⟩
  refine ⟨⟨hr.len, hr.nd, fun n a o h1 h2 => ?_⟩, ⟨le, fun b o h nb => ⟨g _ _ h, nb⟩, fun _ _ _ h => g _ _ h⟩⟩
  have q := hr.at_ n a o h1 h2
  refine q.mono le ?_
  cases e : H a with
  | none => exact (q.ne e).elim
  | some u => exact g _ _ e
theorem rds_of {K : PySem.W.Frag} {m : List Addr} {H : Hp} : ∀ {vs : List V} {ds : List D}, vs.length = ds.length → (∀ (j : Nat) (v : V) (d : D), vs[j]? = some v → ds[j]? = some d → RD K m H v d) → RDs K m H vs ds
  | [], [], _, _ => .nil
  | [], _ :: _, h, _ => by simp at h
  | _ :: _, [], h, _ => by simp at h
  | v :: vs, d :: ds, h, k => .cons (k 0 v d rfl rfl) (rds_of (by simpa using h) fun j v d h1 h2 => k (j + 1) v d (by simpa using h1) (by simpa using h2))
theorem Vals.getV : ∀ {vs : List V} {us : List Value} {j : Nat} {u : Value}, Vals vs us → us[j]? = some u → ∃ v, vs[j]? = some v ∧ RelV v u
  | _, _, _, _, .nil, e => by simp at e
  | _, _, 0, _, .cons r _, e => by simp at e; subst e; exact ⟨_, rfl, r⟩
  | _, _, j + 1, _, .cons _ t, e => by
    obtain ⟨v, h1, h2⟩ := Vals.getV (j := j) t (by simpa using e)
    exact ⟨v, by simpa using h1, h2⟩
section
variable {X : Cx} {ad : Ad} {W : WX}
theorem le_lzip {a b : Expr} {p p2 pos2 pos : Pos} {fa : Env → S → R (List D)} (hc : X.calm = true) (hg : Gl X "list") (hm : X.mg "list" = none) (hg2 : Gl X "zip") (hm2 : X.mg "zip" = none) (ha : PA X [a, b] (LA X.K ad W fa)) (hs : noStars [a, b] = true) :
    PE X (.Call (.Name "list" p) [.Call (.Name "zip" p2) [a, b] [] pos2] [] pos) (LE X.K ad W fun env s => (fa env s).bind fun x s1 => R.of (lzipL x s1)) := by
  have hs1 : noStar a = true ∧ noStars [b] = true := by
    unfold noStars at hs ⊢
    simp only [List.all_cons, Bool.and_eq_true] at hs ⊢
    exact ⟨hs.1, hs.2.1, rfl⟩
  refine ⟨fun pins st σ H Q I h => ?_⟩
  obtain ⟨m, s, env, hr, er, h⟩ := h
  dsimp only at h
  have na : starEach [Expr.Call (.Name "zip" p2) [a, b] [] pos2] X.env = (false, eval (.Call (.Name "zip" p2) [a, b] [] pos2) X.env) :: starEach [] X.env := rfl
  refine Call_ (ld_blt I hg hm boot_list (callWith_type1 (args_cons ?_ na) na))
  have arun := ha.run pos2 pins st σ H (fun vs H1 => ∃ m1 s1 ds, Ext X.K m H m1 H1 ∧ HR X.K ad.ca m1 s1 H1 ∧ RDs X.K m1 H1 vs ds ∧ fa env s = .ok ds s1) I ⟨m, s, env, hr, er, by
    cases e : fa env s with
    | ok ds s1 => exact fun m' H' v x hr' rv => ⟨m', s1, ds, x, hr', rv, rfl⟩
    | ex c s1 => rw [e] at h; exact h
    | no => rw [e] at h; exact h⟩
  refine Call_ (ld_blt I hg2 hm2 boot_zip (callWith_type1 (thn arun fun us s1 hq => ?_) (star_cons hs1.1) (back_no hs1.2)))
  obtain ⟨vs, H1, I1, r1, m1, sA, ds, x1, hr1, rv, ef⟩ := hq
  rw [ef] at h
  simp only [R.bind_ok] at h
  unfold lzipL at h
  split at h
  · rename_i xs ys
    split at h
    · rename_i hl
      cases rv with
      | cons ra rv => cases rv with
        | cons rb rv =>
          cases rv
          cases ra with
          | @tup la vsa _ qa rsa => cases rb with
            | @tup lb vsb _ qb rsb =>
              cases r1 with
              | cons q1 r1 => cases r1 with
                | cons q2 r1 =>
                  cases r1; cases q1; cases q2
                  obtain ⟨its, va, ta, za⟩ := I1.tuple qa
                  obtain ⟨its2, vb, tb, zb⟩ := I1.tuple qb
                  have lta : la < s1.heap.objs.size := by obtain ⟨o, ho, _⟩ := id ta; exact Heap.lt_size ho
                  have ltb : lb < s1.heap.objs.size := by obtain ⟨o, ho, _⟩ := id tb; exact Heap.lt_size ho
                  refine RZ.call_zipT (show s1.heap.IsTuple la its.toArray from ta) (show s1.heap.IsTuple lb its2.toArray from tb) fun h5 zz qi qo ga gb hsz hk => ?_
                  refine args_nil ?_
                  have e1 : its.length = xs.length := by rw [← va.length, rsa.length]
                  have e2 : its2.length = ys.length := by rw [← vb.length, rsb.length]
                  have hxs : xs.length ≤ sizeLine := by rw [← rsa.length]; exact za
                  refine ZL.list_of (st := { s1 with heap := h5 }) (us := its.toArray) (vs := its2.toArray) (I1.ok.hd hc) (PySem.W.ktu_apart s1.heap.objs.size la lb lta ltb) (fun c hcm => ?_) (by simp [e1, e2, hl]) (by simp [e1]; exact hxs) zz qi ⟨_, _, qo⟩ ga gb
                    (Heap.IsTuple.at (h := s1.heap) ta fun o e => hk _ o e) (Heap.IsTuple.at (h := s1.heap) tb fun o e => hk _ o e) fun h6 tk acc c as hk6 hS hal hP hacc => ?_
                  · show c < h5.objs.size
                    rw [hsz]
                    simp only [List.mem_cons, List.not_mem_nil, or_false] at hcm
                    have A1 : la < s1.heap.objs.size + 5 := Nat.lt_of_lt_of_le lta (Nat.le_add_right _ _)
                    have A2 : lb < s1.heap.objs.size + 5 := Nat.lt_of_lt_of_le ltb (Nat.le_add_right _ _)
                    rcases hcm with q | q | q | q | q | q | q
                    · rw [q]; exact Nat.lt_succ_self _
                    · rw [q]; exact Nat.add_lt_add_left (by decide) _
                    · rw [q]; exact Nat.add_lt_add_left (by decide) _
                    · rw [q]; exact Nat.lt_add_of_pos_right (by decide)
                    · rw [q]; exact Nat.add_lt_add_left (by decide) _
                    · rw [q]; exact A1
                    · rw [q]; exact A2
                  · dsimp only at hS hal hP hacc hk6 ⊢
                    have hle : s1.heap.objs.size ≤ h5.objs.size := by rw [hsz]; exact Nat.le_add_right _ _
                    have kA : ∀ b o, s1.heap.get? b = some o → h6.get? b = some o := fun b o e => hk6 b o (fun hm => by
                      have := Heap.lt_size e
                      simp only [List.mem_cons, List.not_mem_nil, or_false] at hm
                      rcases hm with q | q | q | q <;> (rw [q] at this; exact absurd this (Nat.not_lt.mpr (by first | exact Nat.le_add_right _ _ | exact Nat.le_refl _)))) (hk b o e)
                    have I3 : Inv X pins σ H1 { s1 with heap := h6, toks := tk } := I1.kept (t' := tk) kA
                    have nS : H1 h5.objs.size = none := I1.hok.fresh hle
                    have hasl : as.length = xs.length := by rw [hal]; simp [e1]
                    have I4 : Inv X pins σ (upd H1 h5.objs.size (.lst (as.map V.ref))) { s1 with heap := h6, toks := tk } :=
                      I3.take (h' := h6) (t' := tk) (fun b ob _ e => e) (I1.fpOk hle nS) ⟨by rw [List.length_map, hasl]; exact hxs, acc.toList, c, by
                        rw [hacc]
                        have : ∀ l : List Addr, Vals (l.map V.ref) (l.map Value.ref) := fun l => by
                          induction l with
                          | nil => exact .nil
                          | cons a l ih => exact .cons rfl ih
                        exact this as, by rw [Array.toArray_toList]; exact hS⟩
                    have nd : as.Nodup := hP.inc.imp fun h => Nat.ne_of_lt h
                    obtain ⟨H2, I5, gk, qt⟩ := L2.DX.takeT (P := fun bb vv => ∃ (j : Nat) (x y : V), as[j]? = some bb ∧ vsa[j]? = some x ∧ vsb[j]? = some y ∧ vv = [x, y]) I1 as _ I4 nd fun bb hb => by
                      obtain ⟨j, hj⟩ := List.getElem?_of_mem hb
                      obtain ⟨u, v, eu, ev, ep⟩ := hP.is j bb hj
                      have lo := hP.up bb hb
                      obtain ⟨x, hx, rx⟩ := Vals.getV va (j := j) (by simpa using eu)
                      obtain ⟨y, hy, ry⟩ := Vals.getV vb (j := j) (by simpa using ev)
                      have hbl : s1.heap.objs.size ≤ bb := Nat.le_of_lt (Nat.lt_of_le_of_lt hle lo)
                      refine ⟨hbl, ?_, [x, y], ⟨j, x, y, hj, hx, hy, rfl⟩, fun H3 => ⟨by rw [sizeLine_eq]; show 2 ≤ 16777216; decide, [u, v], .cons rx (.cons ry .nil), ⟨_, ep, rfl, 0, rfl⟩⟩⟩
                      rw [upd_ne (Nat.ne_of_gt lo)]
                      exact I1.hok.fresh hbl
                    have gr : ∀ b o, H1 b = some o → H2 b = some o := fun b o e => gk b o (by rw [upd_ne (ne_of_none e nS)]; exact e)
                    obtain ⟨hr2, x2⟩ := hr1.more gr
                    have hmS : h5.objs.size ∉ m1 := hr1.fresh nS
                    have e2S : H2 h5.objs.size = some (.lst (as.map V.ref)) := gk _ _ upd_same
                    have rows : RDs X.K m1 H2 (as.map V.ref) (zipD xs ys) := by
                      have ra2 := (rsa.mono x2.toLe)
                      have rb2 := (rsb.mono x2.toLe)
                      refine rds_of (by rw [List.length_map, hasl, zipD_length]; omega) fun j vv dd hv hd => ?_
                      rw [List.getElem?_map, Option.map_eq_some_iff] at hv
                      obtain ⟨bb, hbj, rfl⟩ := hv
                      obtain ⟨vvv, ⟨j2, x, y, j1, ex, ey, rfl⟩, hH⟩ := qt bb (List.mem_of_getElem? hbj)
                      have ejj : j = j2 := (List.getElem?_inj (List.getElem?_eq_some_iff.mp hbj).1 nd).mp (hbj.trans j1.symm)
                      subst ejj
                      obtain ⟨dx, edx, rx⟩ := ra2.getV ex
                      obtain ⟨dy, edy, ry⟩ := rb2.getV ey
                      rw [zipD_get _ _ _ _ _ edx edy] at hd
                      cases hd
                      exact .tup (.inl (.inl hH)) (.cons rx (.cons ry .nil))
                    have hA := hr2.adopt (o := .lst (zipD xs ys)) hmS ⟨_, e2S, rows.mono le_more⟩
                    refine ⟨.ref h5.objs.size, H2, I5, rfl, h (m1 ++ [h5.objs.size]) H2 (.ref h5.objs.size) ?_ hA (.ref ?_)⟩
                    · have x12 := x1.trans x2
                      refine ⟨⟨fun n a h => le_more.pre (H := H2) (K := X.K) n a (x12.pre n a h), x12.tup, x12.rol⟩, fun bb o hb nb => ⟨(x12.oth bb o hb nb).1, ?_⟩, x12.frz⟩
                      simp only [List.mem_append, List.mem_singleton, not_or]
                      exact ⟨(x12.oth bb o hb nb).2, fun e => by
                        have := (x1.oth bb o hb nb).1
                        rw [e, nS] at this; cases this⟩
                    · rw [← hr1.len, List.getElem?_append_right (Nat.le_refl _)]
                      simp
    · exact h.elim
  · exact h.elim
end
end T
set_option Elab.async false
set_option linter.all false
set_option maxRecDepth 100000
set_option maxHeartbeats 4000000
/-! TLx: errors as values. -/
namespace T
open PySem PySem.Spec L2
open PyProof.Rows hiding St
/-- class 0 is the base of all of them, 13 is ValueError -/
def subX (c d : Nat) : Bool := c == d || d == 0 || d == 13
/-- isinstance(x, (A, ..)), x an error or None -/
def isx (al cs : List Nat) (d : D) (s : S) : Option (D × S) := match d with
  | .non => some (.bl false, s)
  | .ref n => match s[n]? with
    | some (.exo c) => if al.contains c then some (.bl (cs.any fun d => subX c d), s) else none
    | _ => none
  | _ => none
def vC (ad : Ad) (d : Nat) : V := if d = 13 then .ty "ValueError" else .ref (ad.ea d)
def uC (ad : Ad) (d : Nat) : Value := if d = 13 then .type "ValueError" else .ref (ad.ea d)
theorem clsV_c (ad : Ad) (d : Nat) : ClsV (vC ad d) (uC ad d) := by
  unfold vC uC
  split
  · exact .ty _
  · exact .own _
theorem clsV_cs (ad : Ad) : ∀ ds : List Nat, Paired ClsV (ds.map (vC ad)) (ds.map (uC ad))
  | [] => .nil
  | d :: ds => .cons (clsV_c ad d) (clsV_cs ad ds)
section
variable {X : Cx} {pins : List (Addr × Obj)} {σ : L2.St} {H : Hp} {s : Shared}
/-- what isinstance looks at: None's type, an error's class -/
def KX (K : PySem.W.Frag) (H : Hp) (x : V) (t : Value) : Prop := (x = .non ∧ t = .type "NoneType") ∨ ∃ a D, x = .ref a ∧ H a = some (ExH (.ref D) a) ∧ ExcC K D ∧ t = .ref D
theorem kx_kit {x : V} {u t : Value} (I : Inv X pins σ H s) (rx : RelV x u) (h : KX X.K H x t) : ∃ P : Heap → Prop, PySem.W.KitX X.K u t P ∧ P s.heap ∧ u ≠ .builtin "__main__.__loader__#opaque" := by
  rcases h with ⟨rfl, rfl⟩ | ⟨a, D, rfl, e, c, rfl⟩
  · cases (show u = Value.none from rx)
    exact ⟨_, PySem.W.kitx_none, True.intro, fun z => nomatch z⟩
  · cases (show u = Value.ref a from rx)
    obtain ⟨⟨oe, vs, h1, h2, h3⟩, _, _⟩ := I.hok a _ e
    have J : PySem.W.InstAt s.heap a oe D none := by
      obtain ⟨oc, od, oda, osl⟩ := oe
      obtain ⟨q1, q2⟩ := h2
      dsimp only at q1 q2 h3
      subst q1 q2 h3
      exact ⟨h1, rfl, rfl, trivial⟩
    exact ⟨_, PySem.W.handS_kitx_exc c.hg c.hk c.hs c.hd c.ha c.hn c.ht c.hm, J, fun z => nomatch z⟩
def rIsx (K : PySem.W.Frag) : List V → Hp → VK → Prop := fun xs H Q => ∃ (x c : V) (t : Value) (b : Bool), xs = [x, c] ∧ KX K H x t ∧
  ((∃ u, ClsV c u ∧ PySem.W.kitOne K t u = some b) ∨ ∃ tp cs us, c = .ref tp ∧ H tp = some (.tup cs) ∧ Paired ClsV cs us ∧ PySem.W.kitAny K t us = some b) ∧ Q (.bl b) H
theorem call_isx : CallR X (.builtin "isinstance") (rIsx X.K) := by
  intro pins s σ H xs us Q I r h
  obtain ⟨x, c, t, b, rfl, kx, hc, q⟩ := h
  obtain ⟨u1, u2, rfl, r1, r2⟩ := vals2 r
  obtain ⟨P, Z, p, hx⟩ := kx_kit I r1 kx
  rcases hc with ⟨u, k, e⟩ | ⟨tp, cs, ws, rfl, hT, k, e⟩
  · have e2 := k.eq r2
    subst e2
    exact PySem.W.kia_one Z I.kIn p e hx fun tk => ⟨.bl b, H, I.tok tk, rfl, q⟩
  · cases (show u2 = Value.ref tp from r2)
    obtain ⟨_, its, rv, o, h1, h2, n, h3⟩ := (show ObjOk X.prog X.w H s.heap tp (.tup cs) from I.hok tp _ hT)
    have e3 := ClsV.all k rv
    subst e3
    obtain ⟨oc, od, dt, sl⟩ := o
    simp only at h2 h3
    subst h2 h3
    exact PySem.W.kia_tup Z I.kIn p h1 e hx fun tk => ⟨.bl b, H, I.tok tk, rfl, q⟩
end
theorem kitAny_of {K : PySem.W.Frag} {t : Value} {ad : Ad} {g : Nat → Bool} : ∀ {ds : List Nat}, (∀ d ∈ ds, PySem.W.kitOne K t (uC ad d) = some (g d)) → PySem.W.kitAny K t (ds.map (uC ad)) = some (ds.any g)
  | [], _ => kitAny_nil
  | d :: ds, h => by
    rw [List.map_cons, List.any_cons]
    refine kitAny_cons (b := g d) (h d List.mem_cons_self) (fun e => ?_) fun e => by rw [e]; rfl
    rw [e, Bool.false_or]
    exact kitAny_of fun d hd => h d (List.mem_cons_of_mem _ hd)
section
variable {X : Cx} {ad : Ad} {W : WX} {e y : Expr} {es : List Expr} {p pos pos2 : Pos}
/-- what the top says of these classes -/
def KFacts (K : PySem.W.Frag) (ad : Ad) (al cs : List Nat) : Prop := (∀ c, al.contains c = true → ExcC K (ad.ea c)) ∧ (∀ d ∈ cs, PySem.W.kitOne K (.type "NoneType") (uC ad d) = some false) ∧ ∀ c, al.contains c = true → ∀ d ∈ cs, PySem.W.kitOne K (.ref (ad.ea c)) (uC ad d) = some (subX c d)
theorem isx_kx {K : PySem.W.Frag} {al cs : List Nat} {m : List Addr} {s s' : S} {H : Hp} {v : V} {d r : D} (cae : ∀ c, ad.ca (1000 + c) = ad.ea c) (k : KFacts K ad al cs) (hr : HR K ad.ca m s H) (rv : RD K m H v d) (h : isx al cs d s = some (r, s')) :
    s' = s ∧ ∃ (b : Bool) (t : Value), r = .bl b ∧ KX K H v t ∧ ∃ g : Nat → Bool, b = cs.any g ∧ ∀ d ∈ cs, PySem.W.kitOne K t (uC ad d) = some (g d) := by
  unfold isx at h
  split at h
  · cases rv; cases h
    exact ⟨rfl, false, .type "NoneType", rfl, .inl ⟨rfl, rfl⟩, fun _ => false, by induction cs with
      | nil => rfl
      | cons a l ih => rw [List.any_cons, ← ih ⟨k.1, fun d hd => k.2.1 d (List.mem_cons_of_mem _ hd), fun c hc d hd => k.2.2 c hc d (List.mem_cons_of_mem _ hd)⟩]; rfl, fun d hd => k.2.1 d hd⟩
  · rename_i n
    split at h
    · rename_i c hs
      split at h
      · rename_i hc
        cases h
        cases rv with
        | ref hn =>
          have ho := hr.at_ n _ _ hn hs
          have ho : H _ = some (ExH (.ref (ad.ca (1000 + c))) _) := ho
          rw [cae] at ho
          exact ⟨rfl, _, .ref (ad.ea c), rfl, .inr ⟨_, _, rfl, ho, k.1 c hc, rfl⟩, fun d => subX c d, rfl, fun d hd => k.2.2 c hc d hd⟩
      · cases h
    · cases h
  · cases h
theorem le_isx1 {al : List Nat} {d : Nat} {fa : Env → S → R D} (cae : ∀ c, ad.ca (1000 + c) = ad.ea c) (k : KFacts X.K ad al [d]) (hg : Gl X "isinstance") (hm : X.mg "isinstance" = none) (ha : PE X e (LE X.K ad W fa)) (hs : noStar e = true) (hy : PE X y (tC (vC ad d))) (hys : noStar y = true) :
    PE X (.Call (.Name "isinstance" p) [e, y] [] pos) (LE X.K ad W fun env s => (fa env s).bind fun x s1 => R.of (isx al [d] x s1)) := by
  have hq := pe_callB (p := p) (pos := pos) call_isx hg hm (by decide +kernel) (pa_cons ha (pa_cons hy pa_nil (star_cons hys)) (star_cons hs)) (by decide) (by decide) (star_cons hs) (back_no (by simp [noStars, hys]))
  refine hq.imp fun σ H Q ⟨m, s, env, hr, er, h⟩ => ⟨m, s, env, hr, er, h.bind fun x s1 m1 H1 v _ x1 hr1 rv h1 => ?_⟩
  cases hi : isx al [d] x s1 with
  | none => rw [hi] at h1; exact h1.elim
  | some r =>
    obtain ⟨r, s'⟩ := r
    obtain ⟨rfl, b, t, rfl, kx, g, hb, hg⟩ := isx_kx cae k hr1 rv hi
    rw [hi] at h1
    have e1 := hg d List.mem_cons_self
    simp only [List.any_cons, List.any_nil, Bool.or_false] at hb
    exact ⟨v, _, t, b, rfl, kx, .inl ⟨_, clsV_c ad d, by rw [hb]; exact e1⟩, h1 m1 H1 _ .refl hr1 (.bl _)⟩
theorem le_isxT {al ds : List Nat} {kk : Nat} {fa : Env → S → R D} (cae : ∀ c, ad.ca (1000 + c) = ad.ea c) (k : KFacts X.K ad al ds) (hg : Gl X "isinstance") (hm : X.mg "isinstance" = none) (ha : PE X e (LE X.K ad W fa)) (hs : noStar e = true) (hy : PA X es fun _ H Q => Q (ds.map (vC ad)) H) (hl : ds.length ≤ 100) :
    PE X (.Call (.Name "isinstance" p) [e, .Tuple es kk pos2] [] pos) (LE X.K ad W fun env s => (fa env s).bind fun x s1 => R.of (isx al ds x s1)) := by
  have hq := pe_callB (p := p) (pos := pos) call_isx hg hm (by decide +kernel) (pa_cons ha (pa_cons (pe_tup (pos := pos2) (x1 := kk) hy) pa_nil (star_cons rfl)) (star_cons hs)) (by decide) (by decide) (star_cons hs) (back_no (by simp [noStars]; rfl))
  refine hq.imp fun σ H Q ⟨m, s, env, hr, er, h⟩ => ⟨m, s, env, hr, er, h.bind fun x s1 m1 H1 v _ x1 hr1 rv h1 => ?_⟩
  refine ⟨by rw [List.length_map]; exact lim (by omega), fun tp hp => ?_⟩
  cases hi : isx al ds x s1 with
  | none => rw [hi] at h1; exact h1.elim
  | some r =>
    obtain ⟨r, s'⟩ := r
    rw [hi] at h1
    obtain ⟨hr2, x2⟩ := hr1.free (u := .tup (ds.map (vC ad))) hp
    obtain ⟨rfl, b, t, rfl, kx, g, hb, hg⟩ := isx_kx cae k hr2 (rv.mono x2.toLe) hi
    exact ⟨v, _, t, b, rfl, kx, .inr ⟨tp, _, _, rfl, upd_same, clsV_cs ad ds, by rw [hb]; exact kitAny_of hg⟩, h1 m1 _ _ x2 hr2 (.bl _)⟩
end
/-! ### an error that is held past its handler -/
section
variable {X : Cx} {pins : List (Addr × Obj)} {σ : L2.St} {H : Hp} {s : Shared}
theorem track {a : Addr} {oe : Obj} {vs : Array Value} {cls : Value} (I : Inv X pins σ H s) (na : H a = none) (ha : s.heap.get? a = some oe) (hz : Zc cls none oe) (hd : oe.data = .fields vs) (nL : a ≠ X.env.locals)
    (new : ∀ o, X.s_0.heap.get? a = some o → a ∉ X.ex → False) (np : ∀ p ∈ X.pn ++ pins, p.1 ≠ a) : Inv X pins σ (upd H a (ExH cls a)) s := by
  have nc : ∀ x c, X.env.cells.lookup x = some c → c ≠ a := fun x c e z => by
    obtain ⟨v, o, h1, h2⟩ := I.cell x c e
    rw [z, ha] at h1
    cases h1
    rw [hd] at h2
    cases h2
  have neT : ∀ b o, H b = some o → b ≠ a := fun b o e z => by rw [z, na] at e; cases e
  refine ⟨I.ok, I.os, I.bare, ⟨I.base.keep, I.base.slot, fun b o e n hb => ?_, I.base.there, fun b xs e => ?_, fun b o u e => ?_, fun b ps e => ?_⟩, I.loc, I.cell, ?_, fun x c e => ?_, fun p hp => ?_, fun b u e => ?_, I.len⟩
  · rw [upd_ne (fun z => by subst z; exact new o e hb)]
    exact I.base.free b o e n hb
  · have q := I.base.tups b xs e
    rw [upd_ne (neT b _ q)]; exact q
  · have q := I.base.frzs b o u e
    rw [upd_ne (neT b _ q)]; exact q
  · obtain ⟨m, q⟩ := I.base.tbls b ps e
    exact ⟨m, by rw [upd_ne (neT b _ q)]; exact q⟩
  · rw [upd_ne nL.symm]; exact I.free
  · rw [upd_ne (nc x c e)]; exact I.freeC x c e
  · obtain ⟨e, n, ne, nf, d⟩ := I.pin p hp
    exact ⟨e, by rw [upd_ne (np p hp)]; exact n, ne, nf, d⟩
  · by_cases hb : b = a
    · subst hb
      rw [upd_same] at e
      cases e
      exact exH_ok ha hz hd
    · rw [upd_ne hb] at e
      exact (I.hok b u e).stay (fun c v _ q => q) (fun c q => by rw [upd_ne (neT c _ q)]; exact q) fun c xs q => by rw [upd_ne (neT c _ q)]; exact q
theorem toSuite {a : Addr} (I : Inv X pins σ H s) : Inv (X.suite a (X.pn ++ pins)) [] σ H s :=
  ⟨I.ok.suite _ _, I.os, I.bare, I.base, I.loc, I.cell, I.free, I.freeC, fun p hp => I.pin p (by rw [List.append_nil] at hp; exact hp), I.hok, I.len⟩
theorem ofSuite {a : Addr} {pn' : List (Addr × Obj)} (I : Inv (X.suite a (X.pn ++ pins)) pn' σ H s) (ok : X.Ok) : Inv X pins σ H s :=
  ⟨ok, I.os, I.bare, I.base, I.loc, I.cell, I.free, I.freeC, fun p hp => I.pin p (List.mem_append_left _ hp), I.hok, I.len⟩
end
abbrev endsN (D : Ends) (i : Nat) : Ends := { nx := fun σ' H' => D.nx (σ'.set i none) H', rt := D.rt, bk := fun σ' H' => D.bk (σ'.set i none) H', ct := fun σ' H' => D.ct (σ'.set i none) H' }
def wTr (K : PySem.W.Frag) (c : Value) (i : Nat) (ts : Value → TS) (Wout : WX) (D : Ends) : WX := fun cls d σ H =>
  d = none ∧ ∃ b, PySem.W.exmOne K cls c = some b ∧ (b = true → ∀ a, H a = none → ts cls (endsN D i) (σ.set i (some (.ref a))) (upd H a (ExH cls a))) ∧ (b = false → Wout cls d σ H)
section
variable {X : Cx} {x n : Str} {c : Value} {i : Nat} {body suite : List Stmt} {b₀ : Stmt} {np pos pos' : Pos} {tb : WX → TS} {ts : Value → TS} {Wout : WX}
theorem ps_try_tr (hs : X.stack = X.env :: X.outer) (hf : X.env.frame = some X.env.locals) (hN : X.N.Nodup) (hi : X.N[i]? = some n) (hln : X.env.kindOf n = some .local) (hc : Names X x c) (tk : Takes X Wout)
    (hb : ∀ (W : WX) (pn : List (Addr × Obj)) (xe : Value → Shared → Prop), Takes (X.tr pn xe) W → PassesOwn (model X.prog X.w) X.A X.env xe → PSs (X.tr pn xe) body (tb W))
    (hsu : ∀ (a : Addr) (cls : Value) (pn : List (Addr × Obj)), PSs (X.suite a pn) (b₀ :: suite) (ts cls)) :
    PS X (.Try body [.ExceptHandler (some (.Name x np)) (some n) (b₀ :: suite) pos'] [] [] pos) (fun D σ H => tb (wTr X.K c i ts Wout D) D σ H) := by
  refine ⟨fun pins s σ H D I h => ?_⟩
  have ok := I.ok
  have hfr : X.A.frames = some (X.env :: X.outer) := by rw [ok.frames, hs]
  have hloc : Loc X.env.scope n := .inl hln
  refine wpAny_Try_except ?_
  refine wpAny_mono ((hb (wTr X.K c i ts Wout D) (X.pn ++ pins) (fun e s₁ => wpAny (model X.prog X.w) X.A (noteFrame e X.env) (fun _ s₂ => wpAny (model X.prog X.w) X.A (setFlight e none) (fun _ s₃ =>
    wpAny (model X.prog X.w) X.A (handleBy e X.env [.ExceptHandler (some (.Name x np)) (some n) (b₀ :: suite) pos']) (SP X pins D) X.xe s₃) X.xe s₂) X.xe s₁) (fun u s' xx => ?_) PassesOwn.looking).run [] s σ H D (I.toTry _) h) (fun f s1 hsp => ?_) (fun e s1 he => he)
  · obtain ⟨a, B, sI, pins', σ', H', cls, d, rfl, J', nb, up, sky, na, os, ag, ed, b, hb1, hyes, hno⟩ := xx
    subst ed
    have J : Inv X pins σ' H' sI := J'.ofTry ok
    have sky' : Sky B (X.env :: X.outer) a (Zc cls none) X.env.locals s'.heap := by rw [← hs]; exact sky
    show wpAny (model X.prog X.w) X.A (noteFrame (.ref a) X.env) _ _ _
    refine Sky.land Zc.steady hfr hf sky' fun h3 fl3 up3 => ?_
    have J3 : Inv X pins σ' H' { s' with heap := h3 } := J.landed nb fl3.1 (up.trans up3) os ag
    obtain ⟨oe3, vs3, he3, hz3, hd3⟩ := fl3.there
    have notFr : ∀ {h : Heap} {o : Obj} {vs : Array Value}, h.FunFrames B (X.env :: X.outer) → h.get? a = some o → o.data = .fields vs → a ∉ frs (X.env :: X.outer) := fun {h o vs} ff e dd hm => by
      obtain ⟨_, o', e', hnf⟩ := ff.mem hm
      rw [e] at e'; cases e'
      exact hnf _ dd
    have nfr := notFr fl3.2.2.1 he3 hd3
    have nL : a ≠ X.env.locals := fun z => nfr (List.mem_filterMap.mpr ⟨X.env, List.mem_cons_self, by rw [hf, z]⟩)
    have nF : a ∉ X.fs := fun hm => by
      obtain ⟨e, he, q⟩ := List.mem_filterMap.mp hm
      exact nfr (List.mem_filterMap.mpr ⟨e, List.mem_cons_of_mem _ he, q⟩)
    have nB : B.get? a = none := fl3.2.1
    have inB : ∀ b o, sI.heap.get? b = some o → b ≠ a ∨ b ∈ frs X.stack := fun b o e => by
      by_cases hb : b ∈ frs X.stack
      · exact .inr hb
      · refine .inl fun z => ?_
        have q := nb b o e hb
        rw [z, nB] at q; cases q
    have nS : a ∉ frs X.stack := by rw [hs]; exact nfr
    have new : ∀ o, X.s_0.heap.get? a = some o → a ∉ X.ex → False := fun o e hx => by
      obtain ⟨o', e'⟩ := J.base.there a o e hx
      rcases inB a o' e' with z | z
      · exact z rfl
      · exact nS z
    have npn : ∀ p ∈ X.pn ++ pins, p.1 ≠ a := fun p hp z => by
      obtain ⟨e, _, _, _, _⟩ := J.pin p hp
      rcases inB p.1 p.2 e with y | y
      · exact y z
      · rw [z] at y; exact nS y
    have S3 := toSuite (a := a) J3
    refine wpAny_handleBy_cons (codeAny_handlers_test ?_) (by intro q; cases q)
    have LT : PySem.W.Looks (model X.prog X.w) h3 (typeOf (.ref a)) cls := fun A Q E s k q => wpAny_typeOf_ref (k _ _ he3) (by rw [hz3.1]; exact q)
    have LM := PySem.W.exm_one (M := model X.prog X.w) (J3.kIn) LT hb1
    have test : ∀ {Q : Value → Shared → Prop} {E : Value → Shared → Prop}, Q c { s' with heap := h3 } → wpAny (model X.prog X.w) (X.A.mark (some (.ref a))) (eval (.Name x np) X.env) Q E { s' with heap := h3 } := fun {Q E} q => by
      obtain ⟨hg, hdbg, hm | ⟨hm, hv, hnn⟩⟩ := hc
      · exact ld_glob (X := X.suite a (X.pn ++ pins)) S3 hg hm q hdbg
      · exact ld_blt (X := X.suite a (X.pn ++ pins)) S3 hg hm hv q hnn hdbg
    refine test (LM.here ?_)
    cases b with
    | true =>
      refine codeAny_handlers_suite_as ?_
      refine HandSPX.lands_againZ fl3 fun h4 fl4 up4 => ?_
      have J4 : Inv X pins σ' H' { s' with heap := h4 } := J.landed nb fl4.1 ((up.trans up3).trans up4) os ag
      obtain ⟨oe4, vs4, he4, hz4, hd4⟩ := fl4.there
      have S4 := toSuite (a := a) (track J4 na he4 hz4 hd4 nL new npn)
      refine store_ok (X := X.suite a (X.pn ++ pins)) (v := .ref a) S4 hN hi hloc rfl (fun s5 S5 => ?_) (.inr hln)
      refine wpAny_mono ((hsu a cls (X.pn ++ pins)).run [] s5 _ _ _ S5 (hyes rfl a na)) (fun f s6 hsp => ?_) (fun _ _ z => False.elim z)
      have end_ : ∀ {σ6 : L2.St} {H6 : Hp} {Q : Shared → Prop}, Inv (X.suite a (X.pn ++ pins)) [] σ6 H6 s6 → (∀ s7, Inv X pins (σ6.set i none) H6 s7 → Q s7) →
          wpAny (model X.prog X.w) X.A (do bindName X.env n .none; unbindBehindTheSuite X.env n pos') (fun _ s7 => Q s7) X.xe s6 := fun {σ6 H6 Q} S6 hq => gone_ok (ofSuite S6 ok) hN hi hln hq
      cases f with
      | next =>
        obtain ⟨σ6, H6, S6, q6⟩ := hsp
        exact end_ S6 fun s7 J7 => ⟨_, _, J7, q6⟩
      | brk =>
        obtain ⟨σ6, H6, S6, q6⟩ := hsp
        exact end_ S6 fun s7 J7 => ⟨_, _, J7, q6⟩
      | cont =>
        obtain ⟨σ6, H6, S6, q6⟩ := hsp
        exact end_ S6 fun s7 J7 => ⟨_, _, J7, q6⟩
      | ret u =>
        obtain ⟨v6, σ6, H6, S6, r6, q6⟩ := hsp
        exact end_ S6 fun s7 J7 => ⟨_, _, _, J7, r6, q6⟩
    | false =>
      show wpAny _ X.A (handleBy (.ref a) X.env []) _ _ _
      refine wpAny_handleBy_nil ?_
      obtain ⟨k1, k2, k3, oe, vs, T, oT, ts', he, hz, hd, h1, hr⟩ := id fl3
      unfold PySem.passOn
      refine wpAny_bind (wpAny_field he hd h1 ?_)
      rw [if_neg (show ¬ ((Value.ref T == Value.none) = true) from by simp)]
      have fin : wpAny (model X.prog X.w) X.A (setFlight (.ref a) X.env.frame) (fun _ s4 => wpAny (model X.prog X.w) X.A (throw (.ref a) : Sem Flow) (SP X pins D) X.xe s4) X.xe { s' with heap := h3 } := by
        rw [hf]
        refine HandSPX.setFlight_upZ fl3 fun h4 hh4 up4 => wpAny_throw (tk _ _ ?_)
        exact ⟨a, B, sI, pins, σ', H', cls, none, rfl, J, nb, (up.trans up3).trans up4, .inr (.inr (by rw [hs]; exact hh4)), na, os, ag, hno rfl⟩
      first
        | exact wpAny_bind (wpAny_pure (wpAny_bind fin))
        | exact wpAny_bind fin
  · cases f with
    | next =>
      obtain ⟨σ', H', J', q⟩ := hsp
      exact wpAny_execs_nil ⟨σ', H', J'.ofTry ok, q⟩
    | brk =>
      obtain ⟨σ', H', J', q⟩ := hsp
      exact ⟨σ', H', J'.ofTry ok, q⟩
    | cont =>
      obtain ⟨σ', H', J', q⟩ := hsp
      exact ⟨σ', H', J'.ofTry ok, q⟩
    | ret u =>
      obtain ⟨v, σ', H', J', r, q⟩ := hsp
      exact ⟨v, σ', H', J'.ofTry ok, r, q⟩
end
end T
set_option Elab.async false
set_option linter.all false
set_option maxRecDepth 100000
set_option maxHeartbeats 4000000
/-! TLw: instances of own classes: fields, methods, making. -/
namespace T
open PySem PySem.Spec L2
open PyProof.Rows hiding St
def putFD (f : Str) (d : D) : List (Str × D) → List (Str × D)
  | [] => [(f, d)]
  | (g, x) :: r => if g = f then (g, d) :: r else (g, x) :: putFD f d r
section
variable {K : PySem.W.Frag} {m : List Addr} {H : Hp}
theorem rfs_some (f : Str) {d : D} : ∀ {gs : List (Str × V)} {fs : List (Str × D)}, RFs K m H gs fs → fs.lookup f = some d → ∃ v, gs.lookup f = some v ∧ RD K m H v d
  | _, _, .nil, h => by cases h
  | (g, v) :: gs, (g', x) :: fs, .cons q r, h => by
    obtain ⟨e, rv⟩ := q
    dsimp only at e rv
    subst e
    rw [List.lookup_cons] at h ⊢
    cases hb : (f == g) with
    | true => rw [hb] at h; cases h; exact ⟨v, rfl, rv⟩
    | false => rw [hb] at h; exact rfs_some f r h
theorem rfs_none (f : Str) : ∀ {gs : List (Str × V)} {fs : List (Str × D)}, RFs K m H gs fs → fs.lookup f = none → gs.lookup f = none
  | _, _, .nil, _ => rfl
  | (g, v) :: gs, (g', x) :: fs, .cons q r, h => by
    obtain ⟨e, rv⟩ := q
    dsimp only at e rv
    subst e
    rw [List.lookup_cons] at h ⊢
    cases hb : (f == g) with
    | true => rw [hb] at h; cases h
    | false => rw [hb] at h; exact rfs_none f r h
theorem rfs_put (f : Str) {v : V} {d : D} (rv : RD K m H v d) : ∀ {gs : List (Str × V)} {fs : List (Str × D)}, RFs K m H gs fs → RFs K m H (putF f v gs) (putFD f d fs)
  | _, _, .nil => .cons ⟨rfl, rv⟩ .nil
  | (g, y) :: gs, (g', x) :: fs, .cons q r => by
    obtain ⟨e, ry⟩ := q
    dsimp only at e ry
    subst e
    show RFs K m H (if g = f then (g, v) :: gs else (g, y) :: putF f v gs) (if g = f then (g, d) :: fs else (g, x) :: putFD f d fs)
    by_cases hg : g = f
    · rw [if_pos hg, if_pos hg]; exact .cons ⟨rfl, rv⟩ r
    · rw [if_neg hg, if_neg hg]; exact .cons ⟨rfl, ry⟩ (rfs_put f rv r)
theorem rfs_len {gs : List (Str × V)} {fs : List (Str × D)} (r : RFs K m H gs fs) : gs.length = fs.length := Paired.length r
end
/-- o.f -/
def atr (f : Str) (cs : List Nat) (d : D) (s : S) : Option (D × S) := match d with
  | .ref n => match s[n]? with
    | some (.ins c fs) => if cs.contains c then (match fs.lookup f with | some v => some (v, s) | none => none) else none
    | _ => none
  | _ => none
/-- o.f = d -/
def stF (f : Str) (cs : List Nat) (o d : D) (s : S) : Option S := match o with
  | .ref n => match s[n]? with
    | some (.ins c fs) => if cs.contains c && decide (fs.length < 900) then some (s.set n (.ins c (putFD f d fs))) else none
    | _ => none
  | _ => none
/-- o.f op= d: v was its value at s1 -/
def augF (op : BOp) (f : Str) (o v d : D) (s1 s2 : S) : Option S := match o with
  | .ref n => match s1[n]?, s2[n]? with
    | some (.ins c _), some (.ins c' fs) => if c' = c ∧ fs.length < 900 then (match aug2 op v d with | some r => some (s2.set n (.ins c (putFD f r fs))) | none => none) else none
    | _, _ => none
  | _ => none
/-- the method m of o -/
def mfind (tb : List (Nat × Nat)) (m : Str) (s : S) (d : D) : Option Nat := match d with
  | .ref n => match s[n]? with
    | some (.ins c fs) => match fs.lookup m with
      | none => tb.lookup c
      | some _ => none
    | _ => none
  | _ => none
def ClF (K : PySem.W.Frag) (ad : Ad) (f : Str) (cs : List Nat) : Prop := ∀ c, cs.contains c = true → Cls K (ad.ca c) ∧ NoAttr K (ad.ca c) f
theorem mcEq {o : Expr} {m : Str} {apos pos : Pos} {args : List Expr} {env : PySem.Env} (hb : noCall o = true) (hs : noStars args = true) (hl : args.length < 30) (hline : (apos.endLine == pos.line) = true) :
    eval (.Call (.Attribute o m apos) args [] pos) env = (do
      let ov ← eval o env
      standAt apos.atName
      let (f, first) ← holding [ov] (getMethod ov m (do return (← importBound o env).getD true))
      callWith pos f first (backTo pos (starEach args env)) (backToKw pos (keywordEach [] env))) := by
  have hf : methodCallForm (args.length + ([] : List Keyword).length) (backTo pos (starEach args env)) (backToKw pos (keywordEach [] env)) = true := few hs hl
  rw [arm_eval_Call, attrBase hb]
  unfold methodCall
  rw [hf]
  have hp : methodCallPos true o env apos pos = pure pos := by
    unfold methodCallPos
    rw [hline]
    rfl
  have hc : ∀ ov, calleeOf true o env ov m = getMethod ov m (do return (← importBound o env).getD true) := fun _ => rfl
  simp only [hp, hc, pure_bind]
structure MethAt (X : Cx) (ad : Ad) (k c : Nat) (m : Str) (np : Nat) (g : List D → S → R D) : Prop where
  ex : ∃ (f : Addr) (fd : FuncData) (ps : List Str), Cls X.K (ad.ca c) ∧ Meth X.K (ad.ca c) m f ∧ Binds X.K fd ps [] ∧ FnOk X.prog X.w X.K X.mg X.base (L2.CX X.prog X.w) k f fd ps (SpD X.K ad np g)
structure NewAt (X : Cx) (ad : Ad) (k c : Nat) (x : Str) (np : Nat) (g : List D → S → R D) : Prop where
  ex : ∃ (f : Addr) (fd : FuncData) (ps : List Str), X.mg x = some (.ref (ad.ca c)) ∧ Mk X.K (ad.ca c) f ∧ Binds X.K fd ps [] ∧ FnOk X.prog X.w X.K X.mg X.base (L2.CX X.prog X.w) k f fd ps (SpD X.K ad np g)
section
variable {X : Cx} {ad : Ad} {W : WX} {o e : Expr} {es : List Expr} {f m x : Str} {p pos apos pos' : Pos}
theorem le_attr {cs : List Nat} {fo : Env → S → R D} (k : ClF X.K ad f cs) (ho : PE X o (LE X.K ad W fo)) (hb : noCall o = true) : PE X (.Attribute o f pos) (LE X.K ad W fun env s => (fo env s).bind fun x s1 => R.of (atr f cs x s1)) := by
  refine (pe_fld ho (attrBase hb)).imp fun σ H Q ⟨m, s, env, hr, er, h⟩ => ⟨m, s, env, hr, er, h.bind fun x s1 m1 H1 v _ x1 hr1 rv h1 => ?_⟩
  unfold atr at h1
  split at h1
  · split at h1
    · rename_i c fs hn
      split at h1
      · rename_i hc
        split at h1
        · rename_i d hd
          cases rv with
          | ref hm =>
            obtain ⟨dx, gs, e1, rs⟩ := hr1.at_ _ _ _ hm hn
            obtain ⟨v, hv, rv⟩ := rfs_some f rs hd
            obtain ⟨c1, c2⟩ := k c hc
            exact ⟨_, _, dx, gs, v, rfl, e1, c1, c2, hv, h1 m1 H1 _ .refl hr1 rv⟩
        · exact h1.elim
      · exact h1.elim
    · exact h1.elim
  · exact h1.elim
theorem ls_seta {cs : List Nat} {fo fe : Env → S → R D} (k : ClF X.K ad f cs) (ho : PE X o (LE X.K ad W fo)) (he : PE X e (LE X.K ad W fe)) :
    PS X (.Assign [.Attribute o f pos'] e pos) (LS X.K ad W fun env s => (fe env s).st env fun d s1 => (fo env s1).st env fun a s2 => match stF f cs a d s2 with | some s3 => .nx env s3 | none => .no) := by
  refine (ps_fld ho he swapsA).imp fun De σ H ⟨m, s, env, hr, er, h⟩ => ⟨m, s, env, hr, er, h.ofE er fun d s1 m1 H1 v _ x1 hr1 rv er1 h1 => ⟨m1, s1, env, hr1, er1, h1.ofE er1 fun a s2 m2 H2 u _ x2 hr2 ru er2 h2 => ?_⟩⟩
  have rv := rv.mono x2.toLe
  split at h2
  · rename_i s3 h3
    unfold stF at h3
    split at h3
    · split at h3
      · rename_i c fs hn
        split at h3
        · rename_i hc
          cases h3
          rw [Bool.and_eq_true, decide_eq_true_eq] at hc
          cases ru with
          | ref hm =>
            obtain ⟨dx, gs, e1, rs⟩ := hr2.at_ _ _ _ hm hn
            obtain ⟨c1, c2⟩ := k c hc.1
            refine ⟨_, _, dx, gs, rfl, e1, c1, c2, by have := rfs_len rs; omega, ?_⟩
            obtain ⟨h5, x5⟩ := hr2.write (u := .ins (ad.ca c) dx (putF f v gs)) (o := .ins c (putFD f d fs)) hm (fun x => ⟨dx, _, upd_same, RKs.mono x.toLe (rfs_put f rv rs)⟩) (nf_in hn)
            exact h2 m2 _ σ x5 h5 (er2.mono x5.toLe)
        · cases h3
      · cases h3
    · cases h3
  · exact h2.elim
theorem in_aug (o : BOp) : InOp X o.op (rAug o) := by
  intro pins s σ H x y u v Q I rx ry ⟨i, j, e1, e2, h⟩
  rcases h with ⟨rfl, q⟩ | ⟨rfl, q⟩
  · exact in_add pins s σ H x y u v Q I rx ry ⟨i, j, e1, e2, q⟩
  · exact in_sub pins s σ H x y u v Q I rx ry ⟨i, j, e1, e2, q⟩
theorem ls_auga {cs : List Nat} {fo fe : Env → S → R D} (op : BOp) (k : ClF X.K ad f cs) (ho : PE X o (LE X.K ad W fo)) (he : PE X e (LE X.K ad W fe)) :
    PS X (.AugAssign (.Attribute o f pos') op.op e pos) (LS X.K ad W fun env s => (fo env s).st env fun a s1 => match atr f cs a s1 with
      | some (v, _) => ((fe env s1).st env fun d s2 => match augF op f a v d s1 s2 with
        | some s3 => .nx env s3
        | none => .no)
      | none => .no) := by
  refine (ps_fldaug ho he (in_aug op)).imp fun De σ H ⟨m, s, env, hr, er, h⟩ => ⟨m, s, env, hr, er, h.ofE er fun a s1 m1 H1 u _ x1 hr1 ru er1 h1 => ?_⟩
  split at h1
  · rename_i v sv hv
    unfold atr at hv
    split at hv
    · split at hv
      · rename_i c fs hn
        split at hv
        · rename_i hc
          split at hv
          · rename_i d hd
            cases hv
            cases ru with
            | @ref ua _ hm =>
              obtain ⟨dx, gs, e1, rs⟩ := hr1.at_ _ _ _ hm hn
              obtain ⟨y, hy, ry⟩ := rfs_some f rs hd
              obtain ⟨c1, c2⟩ := k c hc
              refine ⟨_, _, dx, gs, y, rfl, e1, c1, c2, hy, m1, s1, env, hr1, er1, h1.ofE er1 fun w s2 m2 H2 z _ x2 hr2 rz er2 h2 => ?_⟩
              have ry := ry.mono x2.toLe
              have hm2 := x2.pre _ _ hm
              split at h2
              · rename_i s3 h3
                unfold augF at h3
                simp only [hn] at h3
                split at h3
                · rename_i c0 fs0 c' fs' hn0 hn'
                  cases hn0
                  split at h3
                  · rename_i hc'
                    obtain ⟨rfl, hl⟩ := hc'
                    split at h3
                    · rename_i r hr3
                      cases h3
                      obtain ⟨dx', gs', e1', rs'⟩ := hr2.at_ _ _ _ hm2 hn'
                      have key : ∀ {t : V}, RD X.K m2 H2 t r → ∃ (dx' : Addr) (fs' : List (Str × V)), H2 ua = some (.ins (ad.ca c') dx' fs') ∧ fs'.length < 1000 ∧ De.nx σ (upd H2 ua (.ins (ad.ca c') dx' (putF f t fs'))) := fun {t} rt => by
                        refine ⟨dx', gs', e1', by have := rfs_len rs'; omega, ?_⟩
                        obtain ⟨h5, x5⟩ := hr2.write (u := .ins (ad.ca c') dx' (putF f t gs')) (o := .ins c' (putFD f r fs')) hm2 (fun x => ⟨dx', _, upd_same, RKs.mono x.toLe (rfs_put f rt rs')⟩) (nf_in hn')
                        exact h2 m2 _ σ x5 h5 (er2.mono x5.toLe)
                      unfold aug2 at hr3
                      split at hr3 <;> first | cases hr3 | skip
                      · cases ry; cases rz
                        exact ⟨_, _, rfl, rfl, .inl ⟨rfl, key (.int _)⟩⟩
                      · cases ry; cases rz
                        exact ⟨_, _, rfl, rfl, .inr ⟨rfl, key (.int _)⟩⟩
                    · cases h3
                  · cases h3
                · cases h3
              · exact h2.elim
          · cases hv
        · cases hv
      · cases hv
    · cases hv
  · exact h1.elim
/-- o.m(..) -/
theorem pe_methD {k : Nat} {ta : TE} {t : TA} {E : L2.St → XK} (he : PE X o ta) (hr : Room k X.A) (hx : ∀ σ, PassesAt (L2.CX X.prog X.w) X σ (E σ)) (ha : PA X (e :: es) t) (hb : noCall o = true) (hs : noStars (e :: es) = true) (hl : (e :: es).length < 30) (hline : (apos.endLine == pos.line) = true) :
    PE X (.Call (.Attribute o m apos) (e :: es) [] pos) (fun σ H Q => ta σ H fun x H1 => ∃ (a C dx : Addr) (fs : List (Str × V)) (f : Addr) (fd : FuncData) (ps : List Str) (sp : Sp), x = .ref a ∧ H1 a = some (.ins C dx fs) ∧ Cls X.K C ∧ Meth X.K C m f ∧
      Binds X.K fd ps [] ∧ FnOk X.prog X.w X.K X.mg X.base (L2.CX X.prog X.w) k f fd ps sp ∧ fs.lookup m = none ∧ t σ H1 fun vs H2 => sp (x :: vs) H2 Q (E σ)) := by
  have h1 : noStar e = true ∧ noStars es = true := by
    unfold noStars at hs ⊢
    rw [List.all_cons, Bool.and_eq_true] at hs
    exact hs
  refine ⟨fun pins s σ H Q I h => ?_⟩
  refine PySem.W.methodCall_KW (thn (he.run pins s σ H _ I h) fun u s1 ⟨x, H1, I1, rx, hh⟩ => ?_) (mcEq hb hs hl hline)
  obtain ⟨a, C, dx, fs, f, fd, ps, sp, ex, ea, c, hm, bn, F, l, q⟩ := hh
  subst ex
  cases (show u = Value.ref a from rx)
  refine getmeth_ok I1 ea c hm l ?_
  refine PySem.W.callWith_K (first := [.ref a]) (h₀ := X.base) I.ok.mod.kin hm.kp (thn (ha.run pos pins s1 σ H1 _ I1 q) fun us s2 hu => ?_) (star_cons h1.1) (back_no h1.2)
  obtain ⟨vs, H2, I2, r, q2⟩ := hu
  exact ⟨I2.kIn, run_fnS (us := .ref a :: us) (vs := .ref a :: vs) F hr bn (hx σ) I2 (.cons rfl r) q2⟩
theorem pe_methD0 {k : Nat} {ta : TE} {E : L2.St → XK} (he : PE X o ta) (hr : Room k X.A) (hx : ∀ σ, PassesAt (L2.CX X.prog X.w) X σ (E σ)) (hb : noCall o = true) (hline : (apos.endLine == pos.line) = true) :
    PE X (.Call (.Attribute o m apos) [] [] pos) (fun σ H Q => ta σ H fun x H1 => ∃ (a C dx : Addr) (fs : List (Str × V)) (f : Addr) (fd : FuncData) (ps : List Str) (sp : Sp), x = .ref a ∧ H1 a = some (.ins C dx fs) ∧ Cls X.K C ∧ Meth X.K C m f ∧
      Binds X.K fd ps [] ∧ FnOk X.prog X.w X.K X.mg X.base (L2.CX X.prog X.w) k f fd ps sp ∧ fs.lookup m = none ∧ sp [x] H1 Q (E σ)) := by
  refine ⟨fun pins s σ H Q I h => ?_⟩
  refine PySem.W.methodCall_KW (thn (he.run pins s σ H _ I h) fun u s1 ⟨x, H1, I1, rx, hh⟩ => ?_) (mcEq hb rfl (by decide) hline)
  obtain ⟨a, C, dx, fs, f, fd, ps, sp, ex, ea, c, hm, bn, F, l, q⟩ := hh
  subst ex
  cases (show u = Value.ref a from rx)
  refine getmeth_ok I1 ea c hm l ?_
  exact PySem.W.callWith_K0 (first := [.ref a]) I1.kIn hm.kp (run_fnS (us := [.ref a]) (vs := [.ref a]) F hr bn (hx σ) I1 (.cons rfl .nil) q)
theorem mfind_at {tb : List (Nat × Nat)} {s : S} {d : D} {j : Nat} {K : PySem.W.Frag} {ml : List Addr} {H : Hp} {v : V} (hr : HR K ad.ca ml s H) (rv : RD K ml H v d) (h : mfind tb m s d = some j) :
    ∃ (a : Addr) (c : Nat) (dx : Addr) (gs : List (Str × V)), v = .ref a ∧ H a = some (.ins (ad.ca c) dx gs) ∧ gs.lookup m = none ∧ tb.lookup c = some j := by
  unfold mfind at h
  split at h
  · split at h
    · rename_i c fs hn
      split at h
      · rename_i hl
        cases rv with
        | ref hm =>
          obtain ⟨dx, gs, e1, rs⟩ := hr.at_ _ _ _ hm hn
          exact ⟨_, c, dx, gs, rfl, e1, rfs_none m rs hl, h⟩
      · cases h
    · cases h
  · cases h
theorem le_mcall {k np : Nat} {tb : List (Nat × Nat)} {F : Nat → List D → S → R D} {fo : Env → S → R D} {fa : Env → S → R (List D)} (hM : ∀ c j, tb.lookup c = some j → MethAt X ad k c m np (F j)) (hr : Room k X.A) (tk : Takes X W) (ho : PE X o (LE X.K ad W fo)) (ha : PA X (e :: es) (LA X.K ad W fa))
    (hnp : (e :: es).length + 1 = np) (hs : noStars (e :: es) = true) (hl : (e :: es).length < 30) (hb : noCall o = true) (hline : (apos.endLine == pos.line) = true) (hlen : ∀ env s ds s', fa env s = .ok ds s' → ds.length + 1 = np) :
    PE X (.Call (.Attribute o m apos) (e :: es) [] pos) (LE X.K ad W fun env s => (fo env s).bind fun x s1 => match mfind tb m s1 x with
      | some j => (fa env s1).bind fun xs s2 => F j (x :: xs) s2
      | none => .no) := by
  refine (pe_methD ho hr (fun σ => passAt tk σ) ha hb hs hl hline).imp fun σ H Q ⟨m, s, env, hr, er, h⟩ => ⟨m, s, env, hr, er, h.bind fun x s1 m1 H1 v _ x1 hr1 rv h1 => ?_⟩
  split at h1
  · rename_i j hj
    obtain ⟨a, c, dx, gs, rfl, e1, hn, hc⟩ := mfind_at hr1 rv hj
    obtain ⟨f, fd, ps, c1, c2, c3, c4⟩ := (hM c j hc).ex
    refine ⟨a, _, dx, gs, f, fd, ps, _, rfl, e1, c1, c2, c3, c4, hn, m1, s1, env, hr1, er.mono x1.toLe, h1.bind fun xs s2 m2 H2 vs hxs x2 hr2 rvs h2 => ?_⟩
    exact ⟨by rw [List.length_cons, rvs.length]; exact hlen _ _ _ _ hxs, m2, s2, _, hr2, .cons (rv.mono x2.toLe) rvs, h2.wish fun c H' q => q⟩
  · exact h1.elim
theorem le_mcall0 {k : Nat} {tb : List (Nat × Nat)} {F : Nat → List D → S → R D} {fo : Env → S → R D} (hM : ∀ c j, tb.lookup c = some j → MethAt X ad k c m 1 (F j)) (hr : Room k X.A) (tk : Takes X W) (ho : PE X o (LE X.K ad W fo)) (hb : noCall o = true) (hline : (apos.endLine == pos.line) = true) :
    PE X (.Call (.Attribute o m apos) [] [] pos) (LE X.K ad W fun env s => (fo env s).bind fun x s1 => match mfind tb m s1 x with
      | some j => F j [x] s1
      | none => .no) := by
  refine (pe_methD0 ho hr (fun σ => passAt tk σ) hb hline).imp fun σ H Q ⟨m, s, env, hr, er, h⟩ => ⟨m, s, env, hr, er, h.bind fun x s1 m1 H1 v _ x1 hr1 rv h1 => ?_⟩
  split at h1
  · rename_i j hj
    obtain ⟨a, c, dx, gs, rfl, e1, hn, hc⟩ := mfind_at hr1 rv hj
    obtain ⟨f, fd, ps, c1, c2, c3, c4⟩ := (hM c j hc).ex
    exact ⟨a, _, dx, gs, f, fd, ps, _, rfl, e1, c1, c2, c3, c4, hn, rfl, m1, s1, _, hr1, .cons rv .nil, h1.wish fun c H' q => q⟩
  · exact h1.elim
/-- C(..) -/
theorem run_new {k : Nat} {f C : Addr} {fd : FuncData} {ps : List Str} {sp : Sp} {E : XK} {σ : L2.St} {pins : List (Addr × Obj)} {H : Hp} {s : Shared} {Q : VK} {us : List Value} {vs : List V} (M : Mk X.K C f) (F : FnOk X.prog X.w X.K X.mg X.base (L2.CX X.prog X.w) k f fd ps sp) (hr : Room (k + 1) X.A)
    (hb : Binds X.K fd ps []) (hx : PassesAt (L2.CX X.prog X.w) X σ E) (I : Inv X pins σ H s) (r : Vals vs us)
    (h : ∀ x dx, H x = none → H dx = none → dx ≠ x → sp (.ref x :: vs) (upd (upd H dx (.own x)) x (.ins C dx [])) (fun v H2 => v = .non ∧ Q (.ref x) H2) E) :
    wpAny (model X.prog X.w) X.A (call (.ref C) us) (EP X pins σ Q) X.xe s := by
  have hn : ∀ b, s.heap.objs.size ≤ b → H b = none := fun b hb => I.hok.fresh hb
  have hq := h (s.heap.objs.size + 1) s.heap.objs.size (hn _ (Nat.le_succ _)) (hn _ (Nat.le_refl _)) (Nat.ne_of_lt (Nat.lt_succ_self _))
  have J := Inv.made (C := C) I
  have rr : Vals (V.ref (s.heap.objs.size + 1) :: vs) (Value.ref (s.heap.objs.size + 1) :: us) := .cons rfl r
  have hl := (rr.length.symm.trans (F.len _ _ _ _ hq))
  have hbb := hb _ (Value.ref (s.heap.objs.size + 1) :: us) J.kIn (by rw [List.append_nil]; exact hl)
  rw [List.append_nil] at hbb
  have hrun := F.run _ X.stack _ _ ⟨Value.ref (s.heap.objs.size + 1) :: us, []⟩ _ _ _ E (hr.make C us []) (J.env0.make C us []) hbb rr hq
  refine wpAny_call (make_map (f := f) I.kIn M.makes M.init (beq_iff_eq.mp M.fn) (codeAny_mono hrun fun r s' hq' => ?_))
  cases r with
  | error e => exact hx pins _ _ e s' J hq'
  | ok fl =>
    cases fl with
    | ret u =>
      obtain ⟨v, H', J', rv, ev, q3⟩ := J.after hq'
      subst ev
      exact ⟨rv, V.ref (s.heap.objs.size + 1), H', J', rfl, q3⟩
    | next => exact False.elim hq'
    | brk => exact False.elim hq'
    | cont => exact False.elim hq'
theorem new_at {K : PySem.W.Frag} {c : Nat} {np : Nat} {g : List D → S → R D} {σ : L2.St} {m1 : List Addr} {s1 : S} {H1 : Hp} {xs : List D} {vs : List V} {Q : VK} (hr : HR K ad.ca m1 s1 H1) (rv : RDs K m1 H1 vs xs) (hl : vs.length + 1 = np)
    (h : Out K ad W σ m1 H1 (RD K) Q ((g (.ref s1.length :: xs) (s1 ++ [.ins c []])).bind fun r s2 => match r with | .non => .ok (.ref s1.length) s2 | _ => .no)) (x dx : Addr) (hx : H1 x = none) (hdx : H1 dx = none) (ne : dx ≠ x) :
    SpD K ad np g (.ref x :: vs) (upd (upd H1 dx (.own x)) x (.ins (ad.ca c) dx [])) (fun v H2 => v = .non ∧ Q (.ref x) H2) fun cls d H => W cls d σ H := by
  obtain ⟨hr2, x2⟩ := hr.free (u := .own x) hdx
  have hx2 : upd H1 dx (.own x) x = none := by rw [upd_ne ne.symm]; exact hx
  obtain ⟨hr3, x3⟩ := hr2.new (u := .ins (ad.ca c) dx []) (o := .ins c []) hx2 ⟨dx, [], upd_same, .nil⟩
  have hm : (m1 ++ [x])[s1.length]? = some x := by
    rw [← hr.len, List.getElem?_append_right (Nat.le_refl _)]
    simp
  refine ⟨by rw [List.length_cons]; exact hl, m1 ++ [x], s1 ++ [.ins c []], _, hr3, .cons (.ref hm) ((rv.mono x2.toLe).mono x3.toLe), ?_⟩
  have h' := h.shift (x2.trans x3)
  cases hg : g (.ref s1.length :: xs) (s1 ++ [.ins c []]) with
  | ok r s2 =>
    rw [hg] at h'
    intro m' H' v y hr' rv'
    dsimp only [R.bind] at h'
    split at h'
    · cases rv'
      exact ⟨rfl, h' m' H' _ y hr' (.ref (y.pre _ _ hm))⟩
    · exact h'.elim
  | ex e s2 => rw [hg] at h'; exact fun m' H' y hr' => h' m' H' y hr'
  | no => rw [hg] at h'; exact h'
theorem le_new {k c np : Nat} {g : List D → S → R D} {fa : Env → S → R (List D)} (hN : NewAt X ad k c x np g) (hr : Room (k + 1) X.A) (hg : Gl X x) (tk : Takes X W) (ha : PA X (e :: es) (LA X.K ad W fa)) (hs : noStars (e :: es) = true) (hd : (x == ("__debug__" : Str)) = false) (hlen : ∀ env s ds s', fa env s = .ok ds s' → ds.length + 1 = np) :
    PE X (.Call (.Name x p) (e :: es) [] pos) (LE X.K ad W fun env s => (fa env s).bind fun xs s1 => (g (.ref s1.length :: xs) (s1 ++ [.ins c []])).bind fun r s2 => match r with | .non => .ok (.ref s1.length) s2 | _ => .no) := by
  obtain ⟨f, fd, ps, hm, hk, hb, F⟩ := hN.ex
  have h1 : noStar e = true ∧ noStars es = true := by
    unfold noStars at hs ⊢
    rw [List.all_cons, Bool.and_eq_true] at hs
    exact hs
  refine ⟨fun pins s σ H Q I h => ?_⟩
  obtain ⟨m, st, env, hr0, er, h⟩ := h
  refine wpAny_Call_Name_kw (ld_glob I hg hm ?_ hd)
  refine PySem.W.callWith_K (h₀ := X.base) I.ok.mod.kin hk.kp (thn (ha.run pos pins s σ H (fun vs H1 => ∀ x dx, H1 x = none → H1 dx = none → dx ≠ x → SpD X.K ad np g (.ref x :: vs) (upd (upd H1 dx (.own x)) x (.ins (ad.ca c) dx [])) (fun v H2 => v = .non ∧ Q (.ref x) H2) (WE W σ)) I
    ⟨m, st, env, hr0, er, h.bind fun xs s1 m1 H1 vs hxs x1 hr1 rvs h1 => new_at hr1 rvs (by rw [rvs.length]; exact hlen _ _ _ _ hxs) h1⟩) fun us s1 hu => ?_) (star_cons h1.1) (back_no h1.2)
  obtain ⟨vs, H1, I1, r, q⟩ := hu
  exact ⟨I1.kIn, run_new hk F hr hb (passAt tk σ) I1 r q⟩
theorem le_new0 {k c : Nat} {g : List D → S → R D} (hN : NewAt X ad k c x 1 g) (hr : Room (k + 1) X.A) (hg : Gl X x) (tk : Takes X W) (hd : (x == ("__debug__" : Str)) = false) :
    PE X (.Call (.Name x p) [] [] pos) (LE X.K ad W fun env s => (g [.ref s.length] (s ++ [.ins c []])).bind fun r s2 => match r with | .non => .ok (.ref s.length) s2 | _ => .no) := by
  obtain ⟨f, fd, ps, hm, hk, hb, F⟩ := hN.ex
  refine ⟨fun pins s σ H Q I h => ?_⟩
  obtain ⟨m, st, env, hr0, er, h⟩ := h
  refine wpAny_Call_Name_kw (ld_glob I hg hm ?_ hd)
  exact PySem.W.callWith_K0 I.kIn hk.kp (run_new (us := []) hk F hr hb (passAt tk σ) I .nil fun x dx => new_at (W := W) (σ := σ) (np := 1) hr0 .nil rfl h x dx)
end
end T
set_option Elab.async false
set_option linter.all false
set_option maxRecDepth 100000
set_option maxHeartbeats 4000000
/-! TLA: o[i] op= e, displayed dicts, dicts whose keys are tuples, chains of comparisons, C.__init__(o). -/
namespace T
open PySem PySem.Spec L2
open PyProof.Rows hiding St
/-! ### o[i] op= e, lists -/
def rdL (s : S) (a k : D) : Option D := match a, k with
  | .ref n, .int i => match lsAt s n with
    | some ds => atI ds i
    | none => none
  | _, _ => none
def augL (op : BOp) (a k v d : D) (s : S) : Option S := match a, k with
  | .ref n, .int i => match lsAt s n with
    | some ds => match ixN ds.length i with
      | some j => match aug2 op v d with
        | some r => some (s.set n (.lst (ds.set j r)))
        | none => none
      | none => none
    | none => none
  | _, _ => none
/-! ### a dict locked while it is walked -/
def lckS (s : S) : D → Option (Nat × S)
  | .ref n => match s[n]? with
    | some (.dic kvs) => some (n, s.set n (.fzk kvs))
    | some (.dit kvs) => some (n, s.set n (.fzt kvs))
    | _ => none
  | _ => none
def unlS (n : Nat) (s : S) : Option S := match s[n]? with
  | some (.fzk kvs) => some (s.set n (.dic kvs))
  | some (.fzt kvs) => some (s.set n (.dit kvs))
  | _ => none
/-- f, while what d is stands locked -/
def lkE (d : R D) (s : S) (f : S → R D) : R D := match d with
  | .ok d _ => match lckS s d with
    | some (n, s1) => match f s1 with
      | .ok r s2 => match unlS n s2 with
        | some s3 => .ok r s3
        | none => .no
      | _ => .no
    | none => .no
  | _ => .no
def unSR (n : Nat) : SR → SR
  | .nx env s => match unlS n s with
    | some s => .nx env s
    | none => .no
  | .rt d s => match unlS n s with
    | some s => .rt d s
    | none => .no
  | .bk env s => match unlS n s with
    | some s => .bk env s
    | none => .no
  | .ct env s => match unlS n s with
    | some s => .ct env s
    | none => .no
  | _ => .no
def lkS (d : R D) (s : S) (f : S → SR) : SR := match d with
  | .ok d _ => match lckS s d with
    | some (n, s1) => unSR n (f s1)
    | none => .no
  | _ => .no
section
variable {K : PySem.W.Frag} {ca : Nat → Addr} {m m' : List Addr} {H H' : Hp} {s s' s1 s3 : S} {n : Nat}
theorem upd_back {d : Addr} {u : HO} (h : H d = some u) {v : HO} : upd (upd H d v) d u = H := by
  funext b
  by_cases e : b = d
  · subst e; rw [upd_same, h]
  · rw [upd_ne e, upd_ne e]
/-- an object of ours is exchanged, whatever stood there -/
theorem HR.exch (hr : HR K ca m s H) {p : Addr} {u : HO} {o : O} (hn : m[n]? = some p) (l : Le K m H m (upd H p u)) (ho : OR K ca m (upd H p u) p o) : HR K ca m (s.set n o) (upd H p u) := by
  obtain ⟨o0, ho0, r0⟩ := hr.some_at hn
  refine ⟨by simp [hr.len], hr.nd, fun j a v h1 h2 => ?_⟩
  by_cases e : n = j
  · subst e
    rw [hn] at h1; cases h1
    rw [List.getElem?_set_self (List.getElem?_eq_some_iff.mp ho0).1] at h2
    cases h2
    exact ho
  · rw [List.getElem?_set_ne e] at h2
    refine (hr.at_ j a v h1 h2).mono l (upd_ne fun q => ?_)
    subst q
    exact e ((List.getElem_inj hr.nd).mp ((List.getElem?_eq_some_iff.mp hn).2.trans (List.getElem?_eq_some_iff.mp h1).2.symm))
theorem le_updM {p : Addr} {u : HO} (w : Wr H p) : Le K m H m (upd H p u) := ⟨fun _ _ h => h, fun b xs h => sqT_upd (fun xs o => w.tup xs o) h, fun b xs h => sqF_upd (fun xs o => w.frz xs o) h⟩
/-- what the locking asks and gives -/
theorem lck_at {d : D} (hr : HR K ca m s H) (h : lckS s d = some (n, s1)) : ∃ (a : Addr) (u : HO), H a = some u ∧ Mut (some u) ∧ (∀ od, HR K ca m s1 (upd H a (.frz od u)) ∧ Le K m H m (upd H a (.frz od u))) ∧
    ∀ {od : Obj} {m' : List Addr} {H' : Hp} {s2 s3 : S}, Ext K m (upd H a (.frz od u)) m' H' → HR K ca m' s2 H' → unlS n s2 = some s3 → H' a = some (.frz od u) ∧ HR K ca m' s3 (upd H' a u) ∧ Ext K m H m' (upd H' a u) ∧ Le K m' H' m' (upd H' a u) := by
  unfold lckS at h
  split at h
  · rename_i n'
    cases hm : m[n']? with
    | none =>
      exfalso
      have e0 : s[n']? = none := by
        rw [List.getElem?_eq_none_iff] at hm ⊢
        rw [← hr.len]; exact hm
      rw [e0] at h; cases h
    | some a =>
      have am : a ∈ m := List.mem_of_getElem? hm
      -- the end, once and for all
      have fin : ∀ {u : HO}, H a = some u → Mut (some u) → (∀ xs, u ≠ .tup xs) → (∀ xs, u ≠ .lst xs) → ∀ {od : Obj} {m' : List Addr} {H' : Hp}, Ext K m (upd H a (.frz od u)) m' H' →
          H' a = some (.frz od u) ∧ Ext K m H m' (upd H' a u) ∧ Le K m' H' m' (upd H' a u) := by
        intro u ea mu nt nl od m' H' x
        have e1 : H' a = some (.frz od u) := x.frz a od u upd_same
        have w : Wr H a := .inr (by rw [ea]; exact mu)
        have l0 : Le K m H m (upd H a (.frz od u)) := le_updM w
        have l1 : Le K m' H' m' (upd H' a u) := by
          refine ⟨fun _ _ h => h, fun b xs h => sqT_upd (fun xs o => ?_) h, fun b xs h => sqF_upd (fun xs o => ?_) h⟩
          · rw [e1]; exact ⟨nofun, fun z => by injection z with z; injection z with _ z; exact nt _ z⟩
          · rw [e1]; exact fun z => by injection z with z; injection z with _ z; exact nl _ z
        refine ⟨e1, ⟨⟨fun i b h => x.pre i b h, fun b xs h => l1.tup b xs (x.tup b xs (l0.tup b xs h)), fun b xs h => l1.rol b xs (x.rol b xs (l0.rol b xs h))⟩, fun b o h nb => ?_, fun b o v h => ?_⟩, l1⟩
        · have ne : b ≠ a := fun z => nb (z ▸ am)
          have q := x.oth b o (by rw [upd_ne ne]; exact h) nb
          exact ⟨by rw [upd_ne ne]; exact q.1, q.2⟩
        · have ne : b ≠ a := fun z => w.fz o v (by rw [← z]; exact h)
          rw [upd_ne ne]
          exact x.frz b o v (by rw [upd_ne ne]; exact h)
      split at h
      · rename_i kvs hk
        cases h
        obtain ⟨kws, ea, rk⟩ := hr.at_ _ _ _ hm hk
        have w : Wr H a := .inr (by rw [ea]; trivial)
        refine ⟨a, _, ea, trivial, fun od => ⟨hr.exch hm (le_updM w) ⟨od, kws, upd_same, RKs.mono (le_updM w) rk⟩, le_updM w⟩, fun {od m' H' s2 s3} x hr2 hu => ?_⟩
        obtain ⟨e1, x2, l2⟩ := fin ea trivial nofun nofun x
        refine ⟨e1, ?_, x2, l2⟩
        unfold unlS at hu
        split at hu
        · rename_i kvs2 hk2
          cases hu
          obtain ⟨od2, kws2, e2, rk2⟩ := hr2.at_ _ _ _ (x.pre _ _ hm) hk2
          rw [e1] at e2; cases e2
          exact hr2.exch (x.pre _ _ hm) l2 ⟨_, upd_same, RKs.mono l2 rk2⟩
        · rename_i kvs2 hk2
          obtain ⟨od2, kws2, e2, rk2⟩ := hr2.at_ _ _ _ (x.pre _ _ hm) hk2
          rw [e1] at e2; cases e2
        · cases hu
      · rename_i kvs hk
        cases h
        obtain ⟨kws, ea, rk⟩ := hr.at_ _ _ _ hm hk
        have w : Wr H a := .inr (by rw [ea]; trivial)
        refine ⟨a, _, ea, trivial, fun od => ⟨hr.exch hm (le_updM w) ⟨od, kws, upd_same, RKs.mono (le_updM w) rk⟩, le_updM w⟩, fun {od m' H' s2 s3} x hr2 hu => ?_⟩
        obtain ⟨e1, x2, l2⟩ := fin ea trivial nofun nofun x
        refine ⟨e1, ?_, x2, l2⟩
        unfold unlS at hu
        split at hu
        · rename_i kvs2 hk2
          obtain ⟨od2, kws2, e2, rk2⟩ := hr2.at_ _ _ _ (x.pre _ _ hm) hk2
          rw [e1] at e2; cases e2
        · rename_i kvs2 hk2
          cases hu
          obtain ⟨od2, kws2, e2, rk2⟩ := hr2.at_ _ _ _ (x.pre _ _ hm) hk2
          rw [e1] at e2; cases e2
          exact hr2.exch (x.pre _ _ hm) l2 ⟨_, upd_same, RKs.mono l2 rk2⟩
        · cases hu
      · cases h
  · cases h
end
/-! ### tuples as keys -/
def keysOf : List D → Option (List Key)
  | [] => some []
  | d :: ds => match keyOf d, keysOf ds with
    | some k, some ks => some (k :: ks)
    | _, _ => none
def dtAt (s : S) (n : Nat) : Option (List (List Key × D)) := match s[n]? with
  | some (.dit kvs) => some kvs
  | _ => none
theorem dtAt_some {s : S} {n : Nat} {kvs : List (List Key × D)} (h : dtAt s n = some kvs) : s[n]? = some (.dit kvs) := by
  unfold dtAt at h
  split at h
  · rename_i e; cases h; exact e
  · cases h
theorem dtR_of {s : S} {n : Nat} {kvs : List (List Key × D)} (h : dtAt s n = some kvs) : dtR s n = some kvs := by unfold dtR; rw [dtAt_some h]
def inT (neg : Bool) (ds : List D) (a : D) (s : S) : Option (D × S) := match a with
  | .ref n => match dtR s n, keysOf ds with
    | some kvs, some ks => if ds.length ≤ 1000000 then some (.bl (if neg then !(valD kvs ks).isSome else (valD kvs ks).isSome), s) else none
    | _, _ => none
  | _ => none
def getT (a : D) (ds : List D) (s : S) : Option (D × S) := match a with
  | .ref n => match dtR s n, keysOf ds with
    | some kvs, some ks => if ds.length ≤ 1000000 then (match valD kvs ks with
      | some d => some (d, s)
      | none => none) else none
    | _, _ => none
  | _ => none
def setT (a : D) (ds : List D) (d : D) (s : S) : Option S := match a with
  | .ref n => match dtAt s n, keysOf ds with
    | some kvs, some ks => if ds.length ≤ 1000000 ∧ kvs.length < 1000000 then some (s.set n (.dit (putD kvs ks d))) else none
    | _, _ => none
  | _ => none
theorem R.bind_assoc {α β γ : Type} {r : R α} {f : α → S → R β} {g : β → S → R γ} : (r.bind f).bind g = r.bind fun a s => (f a s).bind g := by cases r <;> rfl
/-! ### displays -/
def dspD (ks : List Str) (a : Nat) (ds : List D) (s : S) : Option (D × S) := match dcAt s a with
  | some [] => if ks.length = ds.length then some (.ref a, s.set a (.dic ((ks.map Sum.inr).zip ds))) else none
  | _ => none
section
variable {X : Cx} {ad : Ad} {W : WX} {e o a b c : Expr} {es : List Expr} {p pos pos' apos tpos : Pos}
def rGetL : V → V → Hp → VK → Prop := fun x y H Q => ∃ p xs i v, x = .ref p ∧ y = .int i ∧ H p = some (.lst xs) ∧ atI xs i = some v ∧ Q v H
theorem get_list : PGet X rGetL := by
  intro pins s σ H o i ov iv Q I ro ri h
  obtain ⟨p, xs, k, z, rfl, rfl, hp, he, q⟩ := h
  cases ro
  obtain ⟨t, rfl⟩ := ri
  obtain ⟨its, r, pl, hz⟩ := I.list (SqL.of hp)
  obtain ⟨j, h1, h2, h3, h4, h5⟩ := atI_get he
  obtain ⟨w, ew, rw'⟩ := r.get h2
  have hl := r.length
  have hn := line63
  have fin : EP X pins σ Q w s := ⟨z, H, I, rw', q⟩
  by_cases h0 : 0 ≤ k
  · have hj : k.toNat = j := by
      rw [seqIndex_of h0 h5] at h1
      exact Option.some.inj h1
    exact wpAny_getItem_list pl.isList h0 (by omega) (by rw [hj]; simpa using ew) fin
  · have hj : (k + (its.toArray.size : Int)).toNat = j := by
      rw [seqIndex_neg (by omega) h4] at h1
      rw [List.size_toArray, ← hl]
      exact Option.some.inj h1
    exact wpAny_getItem_list_neg pl.isList (by omega) (by rw [List.size_toArray] <;> omega) (by omega) (by rw [hj]; simpa using ew) fin
theorem atI_len {α β : Type} {xs : List α} {ys : List β} (h : xs.length = ys.length) (i : Int) : ixN xs.length i = ixN ys.length i := by rw [h]
theorem rds_at {K : PySem.W.Frag} {m : List Addr} {H : Hp} {vs : List V} {ds : List D} {i : Int} {d : D} (r : RDs K m H vs ds) (h : atI ds i = some d) : ∃ v, atI vs i = some v ∧ RD K m H v d := by
  unfold atI at h ⊢
  rw [r.length]
  cases e : ixN ds.length i with
  | none => rw [e] at h; cases h
  | some j => rw [e] at h; exact r.get h
theorem ls_augs {i : Expr} {fo fi fe : Env → S → R D} (op : BOp) (ho : PE X o (LE X.K ad W fo)) (hi : PE X i (LE X.K ad W fi)) (he : PE X e (LE X.K ad W fe)) (hsl : noSl i = true) :
    PS X (.AugAssign (.Subscript o i tpos) op.op e pos) (LS X.K ad W fun env s => (fo env s).st env fun a s1 => (fi env s1).st env fun k s2 => match rdL s2 a k with
      | some v => ((fe env s2).st env fun d s3 => match augL op a k v d s3 with
        | some s4 => .nx env s4
        | none => .no)
      | none => .no) := by
  refine (ps_augS (tget := rGetL) (tip := rAug op) (tset := rSetL) ho hi get_list he (pip_aug op) set_list (by
    intro ov iv new
    cases i <;> first | rfl | (simp [noSl] at hsl))).imp fun De σ H ⟨m, s, env, hr, er, h⟩ => ⟨m, s, env, hr, er, h.ofE er fun x s1 m1 H1 u _ x1 hr1 ru er1 h1 => ⟨m1, s1, env, hr1, er1, h1.ofE er1 fun k s2 m2 H2 z _ x2 hr2 rz er2 h2 => ?_⟩⟩
  split at h2
  · rename_i v hv
    have hzi : ∃ iz, k = .int iz := by
      unfold rdL at hv
      split at hv
      · exact ⟨_, rfl⟩
      · cases hv
    obtain ⟨iz, rfl⟩ := hzi
    unfold rdL at hv
    split at hv
    · have hk2 := ‹D.int iz = D.int _›
      injection hk2 with hk2
      subst hk2
      split at hv
      · rename_i ds hds
        cases rz with
        | int i2 =>
          cases ru.mono x2.toLe with
          | @ref ua _ hm =>
            obtain ⟨vs, e1, rs⟩ := hr2.at_ _ _ _ hm (lsAt_some hds)
            obtain ⟨y, hy, ry⟩ := rds_at rs hv
            refine ⟨_, vs, _, y, rfl, rfl, e1, hy, m2, s2, env, hr2, er2, h2.ofE er2 fun d s3 m3 H3 w _ x3 hr3 rw er3 h3 => ?_⟩
            have ry := ry.mono x3.toLe
            have hm3 := x3.pre _ _ hm
            split at h3
            · rename_i s4 h4
              unfold augL at h4
              dsimp only at h4
              split at h4
              · rename_i ds3 hds3
                obtain ⟨vs3, e3, rs3⟩ := hr3.at_ _ _ _ hm3 (lsAt_some hds3)
                split at h4
                · rename_i j hj
                  split at h4
                  · rename_i r hr4
                    cases h4
                    have key : ∀ {t : V}, RD X.K m3 H3 t r → rSetL (.ref ua) (.int iz) t H3 (fun H6 => De.nx σ H6) := fun {t} rt => by
                      refine ⟨_, vs3, _, j, rfl, rfl, e3, by rw [rs3.length]; exact hj, ?_⟩
                      obtain ⟨h5, x5⟩ := hr3.write (u := .lst (vs3.set j t)) (o := .lst (ds3.set j r)) hm3 (fun x => ⟨_, upd_same, (rs3.set rt j).mono x.toLe⟩) (nf_ls (lsAt_some hds3))
                      exact h3 m3 _ σ x5 h5 (er3.mono x5.toLe)
                    unfold aug2 at hr4
                    split at hr4 <;> first | cases hr4 | skip
                    · cases ry; cases rw
                      exact ⟨_, _, rfl, rfl, .inl ⟨rfl, key (.int _)⟩⟩
                    · cases ry; cases rw
                      exact ⟨_, _, rfl, rfl, .inr ⟨rfl, key (.int _)⟩⟩
                  · cases h4
                · cases h4
              · cases h4
            · exact h3.elim
      · cases hv
    · cases hv
  · exact h2.elim
/-! tuples as keys -/
theorem keysOf_rel {K : PySem.W.Frag} {m : List Addr} {H : Hp} : ∀ {vs : List V} {ds : List D} {ks : List Key}, RDs K m H vs ds → keysOf ds = some ks → vs = ks.map kV
  | _, _, _, .nil, h => by cases h; rfl
  | _, d :: ds, _, .cons r rs, h => by
    unfold keysOf at h
    split at h
    · rename_i k ks hk hks
      cases h
      rw [List.map_cons, keyOf_rel r hk, keysOf_rel rs hks]
    · cases h
def rInT (neg : Bool) : R2 := fun x y H Q => ∃ b a kvs ks, x = .ref b ∧ y = .ref a ∧ H b = some (.tup (ks.map kV)) ∧ Rd H a (.dT kvs) ∧ Q (.bl (if neg then !(valV kvs ks).isSome else (valV kvs ks).isSome)) H
theorem op_inT (hu : X.A.units + 100 < cLine) : OpR X (compareOp .In) (rInT false) := by
  intro pins s σ H x y v u Q I rx ry h
  obtain ⟨b, a, kvs, k, rfl, rfl, eb, e, q⟩ := h
  obtain rfl : u = Value.ref a := ry
  exact d_in (by omega) I (.inr ⟨_, k, b, e, rfl, eb, rfl⟩) rx fun s3 I3 => ⟨.bl (valV kvs k).isSome, H, I3, rfl, q⟩
theorem op_ninT (hu : X.A.units + 100 < cLine) : OpR X (compareOp .NotIn) (rInT true) := by
  intro pins s σ H x y v u Q I rx ry h
  obtain ⟨b, a, kvs, k, rfl, rfl, eb, e, q⟩ := h
  obtain rfl : u = Value.ref a := ry
  exact d_notIn (by omega) I (.inr ⟨_, k, b, e, rfl, eb, rfl⟩) rx fun s3 I3 => ⟨.bl (!(valV kvs k).isSome), H, I3, rfl, q⟩
def nOp (neg : Bool) : CmpOp := if neg then .NotIn else .In
theorem op_nT (hu : X.A.units + 100 < cLine) (neg : Bool) : OpR X (compareOp (nOp neg)) (rInT neg) := by
  cases neg
  · exact op_inT hu
  · exact op_ninT hu
theorem rInT_of {K : PySem.W.Frag} {σ : L2.St} {m1 m2 : List Addr} {H1 H2 : Hp} {q : Addr} {s2 : S} {neg : Bool} {vs : List V} {ds : List D} {d : D} {u : V} {Q : VK} (hr2 : HR K ad.ca m2 s2 H2) (rs : RDs K m1 H1 vs ds) (hq : H2 q = some (.tup vs)) (ru : RD K m2 H2 u d)
    (h : Out K ad W σ m2 H2 (RD K) Q (R.of (inT neg ds d s2))) : rInT neg (.ref q) u H2 Q := by
  unfold inT at h
  split at h
  · split at h
    · rename_i kvs ks hd hk
      split at h
      · cases ru with
        | ref hm =>
          obtain ⟨kws, e1, rk⟩ := dtR_at hr2 hm hd
          have := keysOf_rel rs hk
          subst this
          refine ⟨q, _, kws, ks, rfl, rfl, hq, e1, ?_⟩
          have e2 : (valV kws ks).isSome = (valD kvs ks).isSome := by
            rcases rks_val rk ks with ⟨v, d, z1, z2, _⟩ | ⟨z1, z2⟩ <;> rw [z1, z2] <;> rfl
          rw [e2]
          exact h m2 H2 _ .refl hr2 (.bl _)
      · exact h.elim
    · exact h.elim
  · exact h.elim
theorem inT_len {neg : Bool} {ds : List D} {d : D} {s : S} {r : D × S} (h : inT neg ds d s = some r) : ds.length ≤ 1000000 := by
  unfold inT at h
  split at h
  · split at h
    · split at h
      · assumption
      · cases h
    · cases h
  · cases h
theorem le_tin {kk : Nat} {neg : Bool} {fa : Env → S → R (List D)} {fd : Env → S → R D} (hu : X.A.units + 100 < cLine) (ha : PA X es (LA X.K ad W fa)) (hd : PE X o (LE X.K ad W fd)) (hm : behindInMarks (nOp neg) o = false) :
    PE X (.Compare (.Tuple es kk p) [nOp neg] [o] pos) (LE X.K ad W fun env s => (fa env s).bind fun x s1 => if x.length ≤ 1000000 then (fd env s1).bind fun y s2 => R.of (inT neg x y s2) else .no) :=
  (pe_cmpR (op_nT hu neg) (pe_tup ha) hd hm).imp fun σ H Q ⟨m, s, env, hr, er, h⟩ => ⟨m, s, env, hr, er, h.bind fun x s1 m1 H1 vs _ x1 hr1 rvs h1 => by
    split at h1
    · rename_i hl
      refine ⟨by rw [rvs.length]; exact lim hl, fun q hq => ?_⟩
      obtain ⟨h5, x5⟩ := hr1.free (u := .tup vs) hq
      refine ⟨m1, s1, env, h5, (er.mono x1.toLe).mono x5.toLe, (h1.shift x5).bind fun y s2 m2 H2 u _ x2 hr2 ru h2 => ?_⟩
      exact rInT_of hr2 rvs (x2.oth q _ upd_same (hr1.fresh hq)).1 ru h2
    · exact h1.elim⟩
theorem lt_tin {kk : Nat} {neg : Bool} {fa : Env → S → R (List D)} {fd : Env → S → R D} (hu : X.A.units + 100 < cLine) (ha : PA X es (LA X.K ad W fa)) (hd : PE X o (LE X.K ad W fd)) (hm : behindInMarks (nOp neg) o = false) :
    PT X (.Compare (.Tuple es kk p) [nOp neg] [o] pos) (LT X.K ad W fun env s => ((fa env s).bind fun x s1 => if x.length ≤ 1000000 then (fd env s1).bind fun y s2 => R.of (inT neg x y s2) else .no).bind fun z s3 => match z with | .bl b => .ok b s3 | _ => .no) :=
  (pt_cmpR (op_nT hu neg) (pe_tup ha) hd hm).imp fun σ H Q ⟨m, s, env, hr, er, h⟩ => by
    dsimp only at h
    rw [R.bind_assoc] at h
    exact ⟨m, s, env, hr, er, h.bind fun x s1 m1 H1 vs _ x1 hr1 rvs h1 => by
      split at h1
      · rename_i hl
        refine ⟨by rw [rvs.length]; exact lim hl, fun q hq => ?_⟩
        obtain ⟨h5, x5⟩ := hr1.free (u := .tup vs) hq
        rw [R.bind_assoc] at h1
        refine ⟨m1, s1, env, h5, (er.mono x1.toLe).mono x5.toLe, (h1.shift x5).bind fun y s2 m2 H2 u _ x2 hr2 ru h2 => ?_⟩
        refine rInT_of hr2 rvs (x2.oth q _ upd_same (hr1.fresh hq)).1 ru (W := W) (σ := σ) (h2.bind fun z s3 m3 H3 w _ x3 hr3 rw h3 => ?_)
        split at h3
        · cases rw; exact ⟨_, rfl, h3 m3 H3 _ .refl hr3 rfl⟩
        · exact h3.elim
      · exact h1.elim⟩
def rIxT2 : R2 := fun x y H Q => ∃ b a kvs ks v, x = .ref a ∧ y = .ref b ∧ H b = some (.tup (ks.map kV)) ∧ Rd H a (.dT kvs) ∧ valV kvs ks = some v ∧ Q v H
theorem ix_dit (hu : X.A.units + 100 < cLine) : IxR X rIxT2 := by
  intro value slice pins s σ H x y v u Q I rx ry h hs
  obtain ⟨b, a, kvs, k, w, rfl, rfl, eb, e, hv, q⟩ := h
  obtain rfl : v = Value.ref a := rx
  have g : DGet H a (.ref b) (some w) := .inr ⟨_, k, b, e, rfl, eb, hv.symm⟩
  exact tail_any (dict_typeIs I g) PySem.F.slot_dict_getitem.lookup (d_getItem (by omega) I g ry fun w' s3 I3 rw' => ⟨w, H, I3, rw', q⟩) hs
theorem le_tget {kk : Nat} {fa : Env → S → R (List D)} {fd : Env → S → R D} (hu : X.A.units + 100 < cLine) (hd : PE X o (LE X.K ad W fd)) (ha : PA X es (LA X.K ad W fa)) :
    PE X (.Subscript o (.Tuple es kk p) pos) (LE X.K ad W fun env s => (fd env s).bind fun y s1 => (fa env s1).bind fun x s2 => R.of (getT y x s2)) :=
  (pe_ix (ix_dit hu) hd (pe_tup ha) (plainIx rfl)).imp fun σ H Q ⟨m, s, env, hr, er, h⟩ => ⟨m, s, env, hr, er, h.bind fun y s1 m1 H1 u _ x1 hr1 ru h1 => ⟨m1, s1, env, hr1, er.mono x1.toLe, h1.bind fun x s2 m2 H2 vs _ x2 hr2 rvs h2 => by
    unfold getT at h2
    split at h2
    · split at h2
      · rename_i kvs ks hd hk
        split at h2
        · rename_i hl
          refine ⟨by rw [rvs.length]; exact lim hl, fun q hq => ?_⟩
          obtain ⟨h5, x5⟩ := hr2.free (u := .tup vs) hq
          cases ru with
          | ref hm =>
            obtain ⟨kws, e1, rk⟩ := dtR_at h5 (x5.pre _ _ (x2.pre _ _ hm)) hd
            have := keysOf_rel rvs hk
            subst this
            split at h2
            · rename_i d hv
              rcases rks_val rk ks with ⟨v, d2, z1, z2, z3⟩ | ⟨z1, z2⟩
              · rw [hv] at z2; cases z2
                exact ⟨q, _, kws, ks, v, rfl, rfl, upd_same, e1, z1, h2 m2 _ _ x5 h5 z3⟩
              · rw [hv] at z2; cases z2
            · exact h2.elim
        · exact h2.elim
      · exact h2.elim
    · exact h2.elim⟩⟩
def rSetT : TSet := fun o i v H Q => ∃ a b kvs ks, o = .ref a ∧ i = .ref b ∧ H b = some (.tup (ks.map kV)) ∧ H a = some (.dT kvs) ∧ kvs.length < sizeLine ∧ Q (upd H a (.dT (putK kvs ks v)))
theorem set_dit (hu : X.A.units + 100 < cLine) : PSet X rSetT := by
  intro pins s σ H o i v ov iv u Q I ro ri rv h
  obtain ⟨a, b, kvs, ks, rfl, rfl, eb, e, hl, q⟩ := h
  exact set_dict (by omega) pins s σ H _ _ v ov iv u Q I ro ri rv ⟨a, _, rfl, DPut.t e eb hl, q⟩
theorem ls_tset {kk : Nat} {fe fd : Env → S → R D} {fa : Env → S → R (List D)} (hu : X.A.units + 100 < cLine) (he : PE X e (LE X.K ad W fe)) (hd : PE X o (LE X.K ad W fd)) (ha : PA X es (LA X.K ad W fa)) :
    PS X (.Assign [.Subscript o (.Tuple es kk pos') p] e pos) (LS X.K ad W fun env s => (fe env s).st env fun d s1 => (fd env s1).st env fun a s2 => (fa env s2).st env fun x s3 => match setT a x d s3 with | some s4 => .nx env s4 | none => .no) := by
  have hg : PG X (.Subscript o (.Tuple es kk pos') p) (gSub (LE X.K ad W fd) (tTup (LA X.K ad W fa)) rSetT) := pg_sub hd (pe_tup ha) (set_dit hu) (by intro v; rfl)
  refine (ps_asg he hg (by unfold swapsWithSole; exact swapsS) (by rfl) (by rfl)).imp fun De σ H ⟨m, s, env, hr, er, h⟩ => ⟨m, s, env, hr, er, h.ofE er fun d s1 m1 H1 v _ x1 hr1 rv er1 h1 =>
    ⟨m1, s1, env, hr1, er1, h1.ofE er1 fun a s2 m2 H2 u _ x2 hr2 ru er2 h2 => ⟨m2, s2, env, hr2, er2, h2.ofE er2 fun x s3 m3 H3 vs _ x3 hr3 rvs er3 h3 => ?_⟩⟩⟩
  have rv := (rv.mono x2.toLe).mono x3.toLe
  split at h3
  · rename_i s4 h4
    unfold setT at h4
    split at h4
    · split at h4
      · rename_i kvs ks hd hk
        split at h4
        · rename_i hl
          cases h4
          refine ⟨by rw [rvs.length]; exact lim hl.1, fun q hq => ?_⟩
          obtain ⟨h5, x5⟩ := hr3.free (u := .tup vs) hq
          cases ru with
          | ref hm =>
            have hm := x5.pre _ _ (x3.pre _ _ hm)
            obtain ⟨kws, e1, rk⟩ := h5.at_ _ _ _ hm (dtAt_some hd)
            have := keysOf_rel rvs hk
            subst this
            refine ⟨_, q, kws, ks, rfl, rfl, upd_same, e1, by have := rks_len rk; have := sizeLine_eq; omega, ?_⟩
            obtain ⟨h6, x6⟩ := h5.write (u := .dT (putK kws ks v)) (o := .dit (putD kvs ks d)) hm (fun x => ⟨_, upd_same, RKs.mono x.toLe (rks_put rk ks (rv.mono x5.toLe))⟩) (nf_dt (dtAt_some hd))
            exact h3 m3 _ σ (x5.trans x6) h6 ((er3.mono x5.toLe).mono x6.toLe)
        · cases h4
      · cases h4
    · cases h4
  · exact h3.elim
/-! chains -/
theorem lt_chn {op op' : CmpOp} {f g : D → D → S → Option (D × S)} {fa fb fc : Env → S → R D} (ho : OpR X (compareOp op) (L2R X.K ad f)) (ho' : OpR X (compareOp op') (L2R X.K ad g)) (ha : PE X a (LE X.K ad W fa)) (hb : PE X b (LE X.K ad W fb)) (hc : PE X c (LE X.K ad W fc))
    (hm : lastMarks [op, op'] [b, c] = false) :
    PT X (.Compare a [op, op'] [b, c] pos) (LT X.K ad W fun env s => (fa env s).bind fun x s1 => (fb env s1).bind fun y s2 => (R.of (f x y s2)).bind fun z s3 => match z with
      | .bl true => (fc env s3).bind fun w s4 => (R.of (g y w s4)).bind fun z s5 => (match z with | .bl b => .ok b s5 | _ => .no)
      | .bl false => .ok false s3
      | _ => .no) :=
  (pt_chain ho ho' ha hb hc hm).imp fun σ H Q ⟨m, s, env, hr, er, h⟩ => ⟨m, s, env, hr, er, h.bind fun x s1 m1 H1 v _ x1 hr1 rv h1 =>
    ⟨m1, s1, env, hr1, er.mono x1.toLe, h1.bind fun y s2 m2 H2 u _ x2 hr2 ru h2 => ⟨m2, s2, x, y, hr2, rv.mono x2.toLe, ru, (h2.bind fun z s3 m3 H3 w _ x3 hr3 rw h3 => by
      split at h3
      · cases rw
        refine ⟨true, rfl, ?_⟩
        rw [if_pos rfl]
        refine ⟨m3, s3, env, hr3, ((er.mono x1.toLe).mono x2.toLe).mono x3.toLe, h3.bind fun w s4 m4 H4 r _ x4 hr4 rr h4 => ⟨m4, s4, y, w, hr4, (ru.mono x3.toLe).mono x4.toLe, rr, (h4.bind fun z s5 m5 H5 q _ x5 hr5 rq h5 => by
          split at h5
          · cases rq; exact ⟨_, rfl, h5 m5 H5 _ .refl hr5 rfl⟩
          · exact h5.elim : Out _ _ _ _ _ _ (RD X.K) _ _).of_any⟩⟩
      · cases rw
        refine ⟨false, rfl, ?_⟩
        rw [if_neg Bool.false_ne_true]
        exact ⟨_, rfl, h3 m3 H3 _ .refl hr3 rfl⟩
      · exact h3.elim : Out _ _ _ _ _ _ (RD X.K) _ _).of_any⟩⟩⟩
/-! C.__init__(o) -/
structure IniAt (X : Cx) (ad : Ad) (k c : Nat) (x : Str) (np : Nat) (g : List D → S → R D) : Prop where
  ex : ∃ (f : Addr) (fd : FuncData) (ps : List Str), X.mg x = some (.ref (ad.ca c)) ∧ PySem.W.readsIn X.K (ad.ca c) (.type "type") = true ∧ PySem.W.specialIn X.K (.ref (ad.ca c)) "__getattribute__" = some (some (.builtin "type.__getattribute__")) ∧
    PySem.W.findCls X.K (.ref (ad.ca c)) (.type "type") "__init__" = some (.val (.ref f)) ∧ PySem.W.keepIn X.K (.ref f) = true ∧ Binds X.K fd ps [] ∧ FnOk X.prog X.w X.K X.mg X.base (L2.CX X.prog X.w) k f fd ps (SpD X.K ad np g)
theorem le_ccall {k c np : Nat} {x : Str} {g : List D → S → R D} {fa : Env → S → R (List D)} (hI : IniAt X ad k c x np g) (hr : Room k X.A) (hg : Gl X x) (tk : Takes X W) (ha : PA X (e :: es) (LA X.K ad W fa)) (hnp : (e :: es).length = np) (hs : noStars (e :: es) = true) (hl : (e :: es).length < 30)
    (hd : (x == ("__debug__" : Str)) = false) (hline : (apos.endLine == pos.line) = true) (hlen : ∀ env s ds s', fa env s = .ok ds s' → ds.length = np) :
    PE X (.Call (.Attribute (.Name x p) "__init__" apos) (e :: es) [] pos) (LE X.K ad W fun env s => (fa env s).bind fun xs s1 => g xs s1) := by
  obtain ⟨f, fd, ps, hm, h1, h2, h3, kp, bn, F⟩ := hI.ex
  have hst : noStar e = true ∧ noStars es = true := by
    unfold noStars at hs ⊢
    rw [List.all_cons, Bool.and_eq_true] at hs
    exact hs
  refine ⟨fun pins s σ H Q I h => ?_⟩
  obtain ⟨m, st, env, hr0, er, h⟩ := h
  refine PySem.W.methodCall_KW (thn ((pe_glob (pos := p) (v := .ref (ad.ca c)) hg hm rfl hd).run pins s σ H (fun v H' => v = .ref (ad.ca c) ∧ H' = H) I ⟨rfl, rfl⟩) fun u s1 ⟨x1, H1, I1, rx, e1, e2⟩ => ?_) (mcEq (by rfl) hs hl hline)
  subst e1 e2
  obtain rfl : u = Value.ref (ad.ca c) := rx
  refine PySem.W.method_cls I1.kIn h2 (PySem.W.cls_value I1.kIn h1 h3 (by rfl) ?_)
  have I2 := I1.tok (s1.toks + 1)
  refine PySem.W.callWith_K (first := []) (h₀ := X.base) I2.ok.mod.kin kp (thn (ha.run pos pins _ σ H1 (fun vs H2 => SpD X.K ad np g vs H2 Q (WE W σ)) I2
    ⟨m, st, env, hr0, er, h.bind fun xs s1 m1 H1 vs hxs x1 hr1 rvs h1 => ⟨by rw [rvs.length]; exact hlen _ _ _ _ hxs, m1, s1, xs, hr1, rvs, h1.wish fun c H' q => q⟩⟩) fun us s2 hu => ?_) (star_cons hst.1) (back_no hst.2)
  obtain ⟨vs, H2, I3, r, q2⟩ := hu
  exact ⟨I3.kIn, run_fnS (us := us) (vs := vs) F hr bn (passAt tk σ) I3 r q2⟩
end
/-! displays -/
section
variable {X : Cx} {ad : Ad} {W : WX} {pos : Pos}
theorem mergeK_zip : ∀ (ks : List Key) (vs : List V) (acc : List (Key × V)), (acc.map (·.1) ++ ks).Nodup → mergeK acc (ks.zip vs) = acc ++ ks.zip vs
  | [], _, acc, _ => by simp [mergeK]
  | _ :: _, [], acc, _ => by simp [mergeK]
  | k :: ks, v :: vs, acc, h => by
    have hk : ∀ p ∈ acc, p.1 ≠ k := fun p hp e => by
      have := (List.nodup_append.mp h).2.2 p.1 (List.mem_map.mpr ⟨p, hp, rfl⟩) k List.mem_cons_self
      exact this e
    have e1 : putK acc k v = acc ++ [(k, v)] := by
      unfold putK
      rw [if_neg]
      intro hx
      obtain ⟨p, hp, e⟩ := List.any_eq_true.mp hx
      exact hk p hp (by simpa using e)
    show mergeK (putK acc k v) (ks.zip vs) = acc ++ (k, v) :: ks.zip vs
    rw [e1, mergeK_zip ks vs (acc ++ [(k, v)]) (by simpa using h)]
    simp
/-- the trees of the pairs, read -/
structure PDs (X : Cx) (ad : Ad) (W : WX) (pos : Pos) (ks : List Str) (xs : List Expr) (fa : Env → S → R (List D)) : Prop where
  ex : ∃ trs, ∀ (keys : List (Option Expr)), keys.map (fun o => o.map fun e => match e with | .Constant (.str x) _ _ => some x | _ => none) = ks.map (fun x => some (some x)) → PPs X pos keys xs trs ∧
    ∀ (σ : L2.St) (H : Hp) (m : List Addr) (s : S) (env : Env) (Q : List (V × V) → Hp → Prop), HR X.K ad.ca m s H → ER X.K m H σ env →
      Out X.K ad W σ m H (RDs X.K) (fun vs H' => Q ((ks.zip vs).map fun p => (.str p.1, p.2)) H') (fa env s) → tPairs trs σ H Q
theorem pds_nil : PDs X ad W pos [] [] fun _ s => .ok [] s := ⟨[], fun keys hk => by
  have : keys = [] := by simpa using hk
  subst this
  exact ⟨pps_nil, fun σ H m s env Q hr er h => h m H [] .refl hr .nil⟩⟩
theorem pds_cons {k : Str} {ks : List Str} {x : Expr} {xs : List Expr} {fe : Env → S → R D} {fa : Env → S → R (List D)} (he : PE X x (LE X.K ad W fe)) (hr : PDs X ad W pos ks xs fa) :
    PDs X ad W pos (k :: ks) (x :: xs) fun env s => (fe env s).bind fun x s1 => (fa env s1).bind fun xs s2 => .ok (x :: xs) s2 := by
  obtain ⟨trs, ht⟩ := hr.ex
  refine ⟨(tC (.str k), LE X.K ad W fe) :: trs, fun keys hk => ?_⟩
  cases keys with
  | nil => cases hk
  | cons o keys =>
    simp only [List.map_cons, List.cons.injEq] at hk
    obtain ⟨h1, h2⟩ := hk
    obtain ⟨p1, p2⟩ := ht keys h2
    cases o with
    | none => cases h1
    | some e =>
      simp only [Option.map_some, Option.some.injEq] at h1
      split at h1
      · cases h1
        refine ⟨pps_cons pe_str he p1, fun σ H m s env Q hr er h => ⟨m, s, env, hr, er, h.bind fun d s1 m1 H1 v _ x1 hr1 rv h1 => ?_⟩⟩
        refine p2 σ H1 m1 s1 env _ hr1 (er.mono x1.toLe) (h1.bind fun ds s2 m2 H2 vs _ x2 hr2 rvs h2 => ?_)
        exact h2 m2 H2 (v :: vs) .refl hr2 (.cons (rv.mono x2.toLe) rvs)
      · cases h1
theorem le_dsp {ks : List Str} {keys : List (Option Expr)} {xs : List Expr} {fa : Env → S → R (List D)} (h : PDs X ad W pos ks xs fa)
    (hk : keys.map (fun o => o.map fun e => match e with | .Constant (.str x) _ _ => some x | _ => none) = ks.map (fun x => some (some x))) (hl : keys.length = xs.length) (h0 : keys ≠ []) (h15 : keys.length ≤ 15) (hn : ks.Nodup) :
    PE X (.Dict keys xs pos) (LE X.K ad W fun env s => (fa env (s ++ [.dic []])).bind fun ds s1 => R.of (dspD ks s.length ds s1)) := by
  obtain ⟨trs, ht⟩ := h.ex
  obtain ⟨p1, p2⟩ := ht keys hk
  have hks : keys.length = ks.length := by have := congrArg List.length hk; simpa using this
  have hall : keys.all (·.isSome) = true := by
    rw [List.all_eq_true]
    intro o ho
    have : (o.map fun e => match e with | .Constant (.str x) _ _ => some x | _ => none) ∈ ks.map (fun x => some (some x)) := by rw [← hk]; exact List.mem_map.mpr ⟨o, ho, rfl⟩
    cases o with
    | none => simp at this
    | some _ => rfl
  refine (pe_disp p1 hall hl h0 h15).imp fun σ H Q ⟨m, s, env, hr, er, h⟩ => fun q hq => ?_
  obtain ⟨h1, x1⟩ := hr.new (u := .dK []) (o := .dic []) hq ⟨[], upd_same, .nil⟩
  refine p2 σ _ _ _ env _ h1 (er.mono x1.toLe) ((h.shift x1).bind fun ds s1 m1 H1 vs _ x2 hr1 rvs h2 => ?_)
  unfold dspD at h2
  split at h2
  · rename_i hd
    split at h2
    · rename_i hlen
      have hm : (m ++ [q])[s.length]? = some q := by
        rw [← hr.len, List.getElem?_append_right (Nat.le_refl _)]
        simp
      have hm1 := x2.pre _ _ hm
      obtain ⟨kws, e1, rk⟩ := hr1.at_ _ _ _ hm1 (dcAt_some hd)
      cases rk
      have hkl : (ks.map Sum.inr : List Key).length = ks.length := by simp
      refine ⟨e1, (ks.map Sum.inr : List Key).zip vs, ?_, ?_, ?_⟩
      · rw [List.zip_map_left, List.map_map]
        rfl
      · rw [List.length_zip, hkl]; omega
      · rw [mergeK_zip _ _ [] (by rw [List.map_nil, List.nil_append]; exact List.Pairwise.map Sum.inr (fun _ _ h e => h (Sum.inr.inj e)) hn), List.nil_append]
        have aux : ∀ {ks : List Key} {vs : List V} {ds : List D}, RDs X.K m1 H1 vs ds → RKs X.K m1 H1 (ks.zip vs) (ks.zip ds) := by
          intro ks
          induction ks with
          | nil => intro vs ds r; exact .nil
          | cons k ks ih =>
            intro vs ds r
            cases r with
            | nil => exact .nil
            | cons r rs => exact .cons ⟨rfl, r⟩ (ih rs)
        have rk := aux (ks := ks.map Sum.inr) rvs
        obtain ⟨h5, x5⟩ := hr1.write (u := .dK ((ks.map Sum.inr).zip vs)) (o := .dic ((ks.map Sum.inr).zip ds)) hm1 (fun x => ⟨_, upd_same, RKs.mono x.toLe rk⟩) (nf_dc (dcAt_some (by assumption)))
        exact h2 m1 _ _ x5 h5 (.ref (x5.pre _ _ hm1))
    · exact h2.elim
  · exact h2.elim
/-! ### locked -/
theorem le_lk {fd f : Env → S → R D} (h : PE X e (LE X.K ad W f)) : PE X e (LE X.K ad W fun env s => lkE (fd env s) s (f env)) := by
  refine (pe_lock h).imp fun σ H Q ⟨m, s, env, hr, er, ho⟩ => ?_
  unfold lkE at ho
  dsimp only at ho
  split at ho
  · split at ho
    · rename_i d s0 hd n s1 hl
      obtain ⟨a, u, ha, mu, h1, h2⟩ := lck_at hr hl
      refine ⟨a, u, ha, mu, fun od => ⟨m, s1, env, (h1 od).1, er.mono (h1 od).2, ?_⟩⟩
      cases hf : f env s1 with
      | ok r s2 =>
        rw [hf] at ho
        dsimp only at ho
        split at ho
        · rename_i s3 hu
          intro m' H' v x hr' rv
          obtain ⟨e1, hr3, x3, l3⟩ := h2 x hr' hu
          exact ⟨e1, ho m' _ v x3 hr3 (rv.mono l3)⟩
        · exact ho.elim
      | ex c s2 => rw [hf] at ho; exact ho.elim
      | no => rw [hf] at ho; exact ho.elim
    · exact ho.elim
  · exact ho.elim
theorem ls_lk {st : Stmt} {fd : Env → S → R D} {f : Env → S → SR} (h : PS X st (LS X.K ad W f)) : PS X st (LS X.K ad W fun env s => lkS (fd env s) s (f env)) := by
  refine (ps_lock h).imp fun De σ H ⟨m, s, env, hr, er, ho⟩ => ?_
  unfold lkS at ho
  dsimp only at ho
  split at ho
  · split at ho
    · rename_i d s0 hd n s1 hl
      obtain ⟨a, u, ha, mu, h1, h2⟩ := lck_at hr hl
      refine ⟨a, u, ha, mu, fun od => ⟨m, s1, env, (h1 od).1, er.mono (h1 od).2, ?_⟩⟩
      cases hf : f env s1 with
      | nx env2 s2 =>
        rw [hf] at ho
        unfold unSR at ho; dsimp only at ho
        split at ho
        · rename_i s3 hu
          intro m' H' σ' x hr' er'
          obtain ⟨e1, hr3, x3, l3⟩ := h2 x hr' hu
          exact ⟨e1, ho m' _ σ' x3 hr3 (er'.mono l3)⟩
        · exact ho.elim
      | bk env2 s2 =>
        rw [hf] at ho
        unfold unSR at ho; dsimp only at ho
        split at ho
        · rename_i s3 hu
          intro m' H' σ' x hr' er'
          obtain ⟨e1, hr3, x3, l3⟩ := h2 x hr' hu
          exact ⟨e1, ho m' _ σ' x3 hr3 (er'.mono l3)⟩
        · exact ho.elim
      | ct env2 s2 =>
        rw [hf] at ho
        unfold unSR at ho; dsimp only at ho
        split at ho
        · rename_i s3 hu
          intro m' H' σ' x hr' er'
          obtain ⟨e1, hr3, x3, l3⟩ := h2 x hr' hu
          exact ⟨e1, ho m' _ σ' x3 hr3 (er'.mono l3)⟩
        · exact ho.elim
      | rt r s2 =>
        rw [hf] at ho
        unfold unSR at ho; dsimp only at ho
        split at ho
        · rename_i s3 hu
          intro m' H' v x hr' rv
          obtain ⟨e1, hr3, x3, l3⟩ := h2 x hr' hu
          exact ⟨e1, ho m' _ v x3 hr3 (rv.mono l3)⟩
        · exact ho.elim
      | ex c env2 s2 => rw [hf] at ho; exact ho.elim
      | no => rw [hf] at ho; exact ho.elim
    · exact ho.elim
  · exact ho.elim
end
end T
set_option Elab.async false
set_option linter.all false
set_option maxRecDepth 100000
set_option maxHeartbeats 4000000
/-! TLB: len(set(xs)) of a list of tuples of whole numbers. -/
namespace T
open PySem PySem.Spec L2
open PyProof.Rows hiding St
def intL : List D → Option (List Int)
  | [] => some []
  | .int i :: r => match intL r with | some k => some (i :: k) | none => none
  | _ => none
def tupsL : List D → Option (List (List Int))
  | [] => some []
  | .tup ds :: r => match intL ds, tupsL r with | some k, some ks => some (k :: ks) | _, _ => none
  | _ => none
def nset1 (a : D) (s : S) : Option (D × S) := match a with
  | .ref n => match lsAt s n with
    | some ds => match tupsL ds with
      | some ks => if ks.Nodup ∧ ks.length < 64 then some (.int (ks.length : Nat), s) else none
      | none => none
    | none => none
  | _ => none
section
variable {X : Cx} {ad : Ad} {W : WX} {e : Expr} {p p2 q pos : Pos}
theorem ints_rd {K : PySem.W.Frag} {m : List Addr} {H : Hp} : ∀ {vs : List V} {ds : List D} {k : List Int}, RDs K m H vs ds → intL ds = some k → vs = k.map V.int
  | _, _, k, .nil, h => by
    unfold intL at h
    cases h; rfl
  | _, _, k, .cons (d := d) a r, h => by
    cases a with
    | int i =>
      rw [intL] at h
      split at h
      · rename_i k' hk
        cases h
        rw [ints_rd r hk]; rfl
      · cases h
    | _ => rw [intL] at h <;> first | cases h | (intro _ _ e; cases e)
theorem tups_rd {K : PySem.W.Frag} {m : List Addr} {H : Hp} : ∀ {vs : List V} {ds : List D} {ks : List (List Int)}, RDs K m H vs ds → tupsL ds = some ks → ∃ ps : List (Addr × List Int), vs = ps.map (fun p => V.ref p.1) ∧ ps.map (·.2) = ks ∧ ∀ p ∈ ps, SqT K H p.1 (p.2.map V.int)
  | _, _, ks, .nil, h => by
    unfold tupsL at h
    cases h
    exact ⟨[], rfl, rfl, fun p hp => nomatch hp⟩
  | _, _, ks, .cons (d := d) a r, h => by
    cases a with
    | @tup b vs ds hq rs =>
      rw [tupsL] at h
      split at h
      · rename_i k ks' hk hks
        cases h
        obtain ⟨ps, e1, e2, e3⟩ := tups_rd r hks
        refine ⟨(b, k) :: ps, by rw [e1]; rfl, by rw [← e2]; rfl, fun p hp => ?_⟩
        rcases List.mem_cons.mp hp with rfl | hp
        · rw [ints_rd rs hk] at hq; exact hq
        · exact e3 p hp
      · cases h
    | _ => rw [tupsL] at h <;> first | cases h | (intro _ _ e; cases e)
theorem nd_len {α : Type} [DecidableEq α] : ∀ {l D : List α}, l.Nodup → (∀ x ∈ l, x ∈ D) → l.length ≤ D.length
  | [], _, _, _ => Nat.zero_le _
  | a :: l, D, nd, h => by
    have ha := h a (by simp)
    have hn := (List.nodup_cons.mp nd)
    have := nd_len (l := l) (D := D.erase a) hn.2 fun x hx => (List.mem_erase_of_ne (fun e => by subst e; exact hn.1 hx)).mpr (h x (by simp [hx]))
    rw [List.length_erase_of_mem ha] at this
    have := List.length_pos_of_mem ha
    rw [List.length_cons]; omega
def rLenT (P : Program) (w : World) : List V → Hp → VK → Prop := fun xs H Q => ∃ a L, xs = [V.ref a] ∧ H a = some (SetTO P w a L) ∧ ((L.map fun x => x.2).Nodup → Q (.int (L.length : Nat)) H)
theorem rowsOf_len {P : Program} {w : World} {L : List (Addr × List Int)} : (rowsOf P w L).length = L.length := by
  unfold rowsOf; simp
theorem cr_lenT : CallR X (.builtin "len") (rLenT X.prog X.w) := by
  intro pins s σ H xs us Q I rv ⟨a, L, e, ha, hq⟩
  subst e
  rw [Vals.ref1 rv]
  obtain ⟨hφ, _, _⟩ := (show ObjOk X.prog X.w H s.heap a (SetTO X.prog X.w a L) from I.hok a _ ha)
  obtain ⟨es, ep, t, ⟨o, ho, hx, hd⟩, hr, tb, nd, pl, led, room, few⟩ := hφ.ex
  have el : es.size = L.length := by
    have : es.toList.length = es.size := by simp
    rw [← this, hr, rowsOf_len]
  have hfit : t.fits es.size = true := by
    unfold SetTable.fits
    have h1 := tb.sz
    rw [List.length_map] at h1
    rw [Bool.and_eq_true]
    refine ⟨by rw [h1, el]; simp, decide_eq_true ?_⟩
    unfold SetTable.fill
    rw [tb.dm, h1]
    simp
    omega
  refine call_len_set ho hx hd hfit (by rw [el]; omega) ?_
  refine ⟨.int (L.length : Nat), H, I.kept (t' := s.toks + 1 + 1) fun _ _ q => q, ?_, hq nd⟩
  rw [el]; exact ⟨_, rfl⟩
/-- len(set(e)) -/
theorem le_nset {fa : Env → S → R D} (hc : X.calm = true) (hu : X.A.units + 100 < cLine) (hg : Gl X "len") (hm : X.mg "len" = none) (hg2 : Gl X "set") (hm2 : X.mg "set" = none) (ha : PE X e (LE X.K ad W fa)) (hs : noStar e = true) :
    PE X (.Call (.Name "len" p) [.Call (.Name "set" p2) [e] [] q] [] pos) (LE X.K ad W fun env s => (fa env s).bind fun x s1 => R.of (nset1 x s1)) := by
  have h1 := pe_callTy (p := p2) (pos := q) (cr_setOfT (X := X) hc (by omega)) hg2 hm2 (by decide +kernel) (pa_cons ha pa_nil (star_cons hs)) (by decide) (by decide) (star_cons hs) (by rfl)
  have h2 := pe_callB (p := p) (pos := pos) (cr_lenT (X := X)) hg hm PySem.boot_len (pa_cons h1 pa_nil (by rfl)) (by decide) (by decide) (by rfl) (by rfl)
  refine h2.imp fun σ H Q ⟨m, s, env, hr, er, h⟩ => ⟨m, s, env, hr, er, h.bind fun x s1 m1 H1 v _ x1 hr1 rv h1 => ?_⟩
  cases rv with
  | @ref a n hn =>
    simp only [nset1] at h1
    split at h1
    · rename_i ds hds
      split at h1
      · rename_i ks hks
        split at h1
        · rename_i hk
          obtain ⟨vs, e1, rs⟩ := hr1.lst hn hds
          obtain ⟨ps, q1, q2, q3⟩ := tups_rd rs hks
          subst q1 q2
          have hl : ps.length < 64 := by have := hk.2; rwa [List.length_map] at this
          refine ⟨a, ps, rfl, SqL.of e1, q3, hl, fun b L hb s1 s2 => ?_⟩
          obtain ⟨f1, f2⟩ := hr1.free (u := SetTO X.prog X.w b L) hb
          refine ⟨b, L, rfl, upd_same, ?_⟩
          intro hnd
          have e1 : L.length = ps.length := by
            have a1 := nd_len hnd (D := ps.map fun x => x.2) fun x hx => by
              obtain ⟨y, hy, rfl⟩ := List.mem_map.mp hx
              exact List.mem_map.mpr ⟨y, s1 y hy, rfl⟩
            have a2 := nd_len hk.1 (D := L.map fun x => x.2) fun x hx => by
              obtain ⟨y, hy, rfl⟩ := List.mem_map.mp hx
              exact s2 y hy
            simp only [List.length_map] at a1 a2
            omega
          have h3 := h1 m1 _ (.int ((ps.length : Nat) : Int)) f2 f1 (by rw [List.length_map]; exact .int _)
          rw [e1]
          exact h3
        · exact h1.elim
      · exact h1.elim
    · exact h1.elim
  | _ => exact h1.elim
end
end T
set_option Elab.async false
set_option linter.all false
set_option maxRecDepth 100000
set_option maxHeartbeats 4000000
/-! TLl: the little language: what it does, whether a text is it, and that then it does it. -/
namespace T
open PySem PySem.Spec L2
open PyProof.Rows hiding St
inductive CV where
  | int (i : Int) | str (x : Str)
  deriving DecidableEq
def CV.v : CV → V
  | .int i => .int i
  | .str x => .str x
def CV.d : CV → D
  | .int i => .int i
  | .str x => .str x
/-- what stands at the module's names: the defs (name, parameters), the constants, what is a built-in still -/
structure Tab where
  defs : List (Nat × Str × Nat)
  cons : List (Str × CV)
  free : List Str
  excs : List (Nat × Str) := []
  exms : List (Nat × Nat) := []
  clss : List (Nat × Str) := []
  meths : List (Nat × Str × Nat × Nat) := []
  noat : List (Nat × Str) := []
  inis : List (Nat × Str × Nat × Nat) := []
mutual
inductive Tg where
  | nm (i : Nat) | tp (ts : Tgs)
inductive Tgs where
  | nil | cons (t : Tg) (r : Tgs)
end
mutual
inductive E where
  | bad | var (i : Nat) | non | bl (b : Bool) | int (i : Int) | str (x : Str) | con (x : Str) (c : CV)
  | neg (a : E) | bin (o : BOp) (a b : E) | cmp (o : COp) (a b : E) | and (a b : E) | or (a b : E) | one (a : E) | not (a : E) | ite (c : Te) (a b : E)
  | tup (es : Es) | lst (es : Es) | dk | dt | idx (a i : E) | slc (a : E) (lo hi : Eo) | rev (a : E)
  | call (j : Nat) (es : Es) | blt (b : Blt) (es : Es) | isi (t : Ty) (a : E) | mth (m : Mth) (o : E) (es : Es)
  | lc (own : List (Str × Nat)) (tg : Tg) (w : Wa) (c : Co) (a : E) | lrg1 (a : E) | lrg2 (a b : E) | lzip (es : Es)
  | isx (al cs : List Nat) (a : E) | attr (o : E) (f : Str) (cs : List Nat) | mcall (m : Str) (tb : List (Nat × Nat)) (o : E) (es : Es) | new (c j : Nat) (es : Es)
  | ccall (c j : Nat) (es : Es) | dsp (ks : List Str) (es : Es) | tin (neg : Bool) (es : Es) (d : E) | tget (d : E) (es : Es) | lk (d e : E) | nset (a : E)
inductive Es where
  | nil | cons (e : E) (r : Es)
inductive Eo where
  | none | some (e : E)
inductive Te where
  | cmp (o : COp) (a b : E) | val (a : E) | not (a : Te) | and (a b : Te) | or (a b : Te) | one (a : Te) | chn (o1 o2 : COp) (a b c : E) | tin (neg : Bool) (es : Es) (d : E)
inductive Wa where
  | seq (e : E) | rng1 (es : Es) | rng2 (es : Es) | rng3 (es : Es) | enum (es : Es) | zip (es : Es)
inductive Co where
  | none | some (c : Te)
end
mutual
inductive C where
  | bad | set (i : Nat) (e : E) | setc (i : Nat) (own : List (Str × Nat)) (tg : Tg) (w : Wa) (c : Co) (a : E) | asg (tg : Tg) (e : E) | sub (o i e : E)
  | exp (e : E) | ret (e : E) | retn | pas | brk | cnt | ife (c : Te) (a b : B) | for_ (tg : Tg) (w : Wa) (b : B) | whl (n : Nat) (c : Te) (b : B) | aug (i : Nat) (o : BOp) (e : E)
  | raise (c : Nat) | tryc (b : B) (c : Nat) (cs : List Nat) (h : B) | tryx (b : B) (c : Nat) (cs : List Nat) (n : Nat) (h : B) | try2 (b : B) (cs : List Nat) (c1 : Nat) (h1 : B) (c2 : Nat) (h2 : B)
  | seta (o : E) (f : Str) (cs : List Nat) (e : E) | auga (o : E) (f : Str) (cs : List Nat) (op : BOp) (e : E)
  | augs (o i : E) (op : BOp) (e : E) | tset (d : E) (es : Es) (e : E) | tryn (b : B) (cs : List Nat) (hs : Hs) | lks (d : E) (c : C) | asl (ts : Tgs) (e : E)
inductive B where
  | nil | cons (c : C) (b : B)
inductive Hs where
  | nil | cons (c : Nat) (h : B) (r : Hs)
end
def Tgs.len : Tgs → Nat
  | .nil => 0
  | .cons _ r => r.len + 1
def Es.len : Es → Nat
  | .nil => 0
  | .cons _ r => r.len + 1
/-! ### what it does -/
mutual
def Tg.slots : Tg → List Nat
  | .nm i => [i]
  | .tp ts => ts.slots
def Tgs.slots : Tgs → List Nat
  | .nil => []
  | .cons t r => t.slots ++ r.slots
end
mutual
def denG : Tg → D → Env → Option Env
  | .nm i => fun d env => some (env.set i (some d))
  | .tp ts => fun d env => match d with | .tup ds => if ds.length = ts.len then denGs ts ds env else none | _ => none
def denGs : Tgs → List D → Env → Option Env
  | .nil => fun ds env => match ds with | [] => some env | _ => none
  | .cons t r => fun ds env => match ds with | d :: q => (denG t d env).bind (denGs r q) | [] => none
end
def neg1 (d : D) (s : S) : Option (D × S) := match d with
  | .int i => some (.int (-i), s)
  | _ => none
abbrev Fn := Nat → List D → S → R D
mutual
noncomputable def denE (F : Fn) : E → Env → S → R D
  | .bad => fun _ _ => .no
  | .var i => fun env s => gV env s i
  | .non => fun _ s => .ok .non s
  | .bl b => fun _ s => .ok (.bl b) s
  | .int i => fun _ s => .ok (.int i) s
  | .str x => fun _ s => .ok (.str x) s
  | .con _ c => fun _ s => .ok c.d s
  | .neg a => fun env s => (denE F a env s).bind fun x s1 => R.of (neg1 x s1)
  | .bin o a b => fun env s => (denE F a env s).bind fun x s1 => (denE F b env s1).bind fun y s2 => R.of (bop o x y s2)
  | .cmp o a b => fun env s => (denE F a env s).bind fun x s1 => (denE F b env s1).bind fun y s2 => R.of (cop o x y s2)
  | .and a b => fun env s => (denE F a env s).bind fun x s1 => match x with | .bl true => denE F b env s1 | .bl false => .ok (.bl false) s1 | _ => .no
  | .or a b => fun env s => (denE F a env s).bind fun x s1 => match x with | .bl true => .ok (.bl true) s1 | .bl false => denE F b env s1 | _ => .no
  | .one a => denE F a
  | .not a => fun env s => (denE F a env s).bind fun x s1 => match x with | .bl b => .ok (.bl (!b)) s1 | _ => .no
  | .ite c a b => fun env s => (denT F c env s).bind fun x s1 => if x then denE F a env s1 else denE F b env s1
  | .tup es => fun env s => (denA F es env s).bind fun x s1 => R.of (mkT x s1)
  | .lst es => fun env s => (denA F es env s).bind fun x s1 => R.of (mkL x s1)
  | .dk => fun _ s => .ok (.ref s.length) (s ++ [.dic []])
  | .dt => fun _ s => .ok (.ref s.length) (s ++ [.dit []])
  | .idx a i => fun env s => (denE F a env s).bind fun x s1 => (denE F i env s1).bind fun y s2 => R.of (idx2 x y s2)
  | .slc a lo hi => fun env s => (denE F a env s).bind fun x s1 => (denO F lo env s1).bind fun l s2 => (denO F hi env s2).bind fun u s3 => R.of (slc x l u s3)
  | .rev a => fun env s => (denE F a env s).bind fun x s1 => R.of (rev1 x s1)
  | .call j es => fun env s => (denA F es env s).bind fun xs s1 => F j xs s1
  | .blt b es => fun env s => (denA F es env s).bind fun x s1 => R.of (blt b x s1)
  | .isi t a => fun env s => (denE F a env s).bind fun x s1 => R.of (isi t x s1)
  | .mth m o es => fun env s => (denE F o env s).bind fun x s1 => if rcv m.ty s1 x then (denA F es env s1).bind fun xs s2 => R.of (mth m x xs s2) else .no
  | .lc own tg w c a => fun env s => (denW F w env s).bind fun p s1 => endC (loopC p.2 (denG tg) (denC F c) (denE F a) (wipeE env (own.map (·.2))) p.1 [] s1)
  | .lrg1 a => fun env s => (denE F a env s).bind fun x s1 => R.of (lrgI (.int 0) x s1)
  | .lrg2 a b => fun env s => (denE F a env s).bind fun x s1 => (denE F b env s1).bind fun y s2 => R.of (lrgI x y s2)
  | .lzip es => fun env s => (denA F es env s).bind fun x s1 => R.of (lzipL x s1)
  | .isx al cs a => fun env s => (denE F a env s).bind fun x s1 => R.of (isx al cs x s1)
  | .attr o f cs => fun env s => (denE F o env s).bind fun x s1 => R.of (atr f cs x s1)
  | .mcall m tb o es => fun env s => (denE F o env s).bind fun x s1 => match mfind tb m s1 x with
    | some j => (denA F es env s1).bind fun xs s2 => F j (x :: xs) s2
    | none => .no
  | .new c j es => fun env s => (denA F es env s).bind fun xs s1 => (F j (.ref s1.length :: xs) (s1 ++ [.ins c []])).bind fun r s2 => match r with | .non => .ok (.ref s1.length) s2 | _ => .no
  | .ccall _ j es => fun env s => (denA F es env s).bind fun xs s1 => F j xs s1
  | .dsp ks es => fun env s => (denA F es env (s ++ [.dic []])).bind fun ds s1 => R.of (dspD ks s.length ds s1)
  | .tin neg es d => fun env s => (denA F es env s).bind fun x s1 => if x.length ≤ 1000000 then (denE F d env s1).bind fun y s2 => R.of (inT neg x y s2) else .no
  | .tget d es => fun env s => (denE F d env s).bind fun y s1 => (denA F es env s1).bind fun x s2 => R.of (getT y x s2)
  | .lk d e => fun env s => lkE (denE F d env s) s (denE F e env)
  | .nset a => fun env s => (denE F a env s).bind fun x s1 => R.of (nset1 x s1)
noncomputable def denA (F : Fn) : Es → Env → S → R (List D)
  | .nil => fun _ s => .ok [] s
  | .cons e r => fun env s => (denE F e env s).bind fun x s1 => (denA F r env s1).bind fun xs s2 => .ok (x :: xs) s2
noncomputable def denO (F : Fn) : Eo → Env → S → R (Option Int)
  | .none => fun _ s => .ok none s
  | .some e => fun env s => (denE F e env s).bind fun x s1 => match x with | .int i => .ok (some i) s1 | _ => .no
noncomputable def denT (F : Fn) : Te → Env → S → R Bool
  | .cmp o a b => fun env s => (denE F a env s).bind fun x s1 => (denE F b env s1).bind fun y s2 => (R.of (cop o x y s2)).bind fun z s3 => match z with | .bl b => .ok b s3 | _ => .no
  | .val a => fun env s => (denE F a env s).bind fun x s1 => match x with | .bl b => .ok b s1 | _ => .no
  | .not a => fun env s => (denT F a env s).bind fun b s1 => .ok (!b) s1
  | .and a b => fun env s => (denT F a env s).bind fun x s1 => if x then denT F b env s1 else .ok false s1
  | .or a b => fun env s => (denT F a env s).bind fun x s1 => if x then .ok true s1 else denT F b env s1
  | .one a => denT F a
  | .chn o1 o2 a b c => fun env s => (denE F a env s).bind fun x s1 => (denE F b env s1).bind fun y s2 => (R.of (cop o1 x y s2)).bind fun z s3 => match z with
      | .bl true => (denE F c env s3).bind fun w s4 => (R.of (cop o2 y w s4)).bind fun z s5 => (match z with | .bl b => .ok b s5 | _ => .no)
      | .bl false => .ok false s3
      | _ => .no
  | .tin neg es d => fun env s => ((denA F es env s).bind fun x s1 => if x.length ≤ 1000000 then (denE F d env s1).bind fun y s2 => R.of (inT neg x y s2) else .no).bind fun z s3 => match z with | .bl b => .ok b s3 | _ => .no
noncomputable def denW (F : Fn) : Wa → Env → S → R (List D × Gs)
  | .seq e => fun env s => (denE F e env s).bind itSeq
  | .rng1 es => fun env s => (denA F es env s).bind itRng1
  | .rng2 es => fun env s => (denA F es env s).bind itRng2
  | .rng3 es => fun env s => (denA F es env s).bind itRng3
  | .enum es => fun env s => (denA F es env s).bind itEnum
  | .zip es => fun env s => (denA F es env s).bind itZip
noncomputable def denC (F : Fn) : Co → Env → S → R Bool
  | .none => fun _ s => .ok true s
  | .some c => denT F c
end
/-- the name of a handler goes -/
def unS (n : Nat) : SR → SR
  | .nx env s => .nx (env.set n none) s
  | .rt d s => .rt d s
  | .bk env s => .bk (env.set n none) s
  | .ct env s => .ct (env.set n none) s
  | _ => .no
mutual
noncomputable def denS (F : Fn) : C → Env → S → SR
  | .bad => fun _ _ => .no
  | .set i e => fun env s => (denE F e env s).st env fun d s1 => .nx (env.set i (some d)) s1
  | .setc i own tg w c a => fun env s => (denE F (.lc own tg w c a) env s).st env fun d s1 => .nx (env.set i (some d)) s1
  | .asg tg e => fun env s => (denE F e env s).st env fun d s1 => match denG tg d env with | some env1 => .nx env1 s1 | none => .no
  | .sub o i e => fun env s => (denE F e env s).st env fun d s1 => (denE F o env s1).st env fun a s2 => (denE F i env s2).st env fun k s3 => match setAt s3 a k d with | some s4 => .nx env s4 | none => .no
  | .exp e => fun env s => (denE F e env s).st env fun _ s1 => .nx env s1
  | .ret e => fun env s => (denE F e env s).st env fun d s1 => .rt d s1
  | .retn => fun env s => .rt .non s
  | .pas => fun env s => .nx env s
  | .brk => fun env s => .bk env s
  | .cnt => fun env s => .ct env s
  | .ife c a b => fun env s => (denT F c env s).st env fun k s1 => if k then denB F a env s1 else denB F b env s1
  | .for_ tg w b => fun env s => (denW F w env s).st env fun p s1 => loopF p.2 (denG tg) (denB F b) p.1 env s1
  | .whl n c b => fun env s => loopW (denT F c) (denB F b) n env s
  | .aug i o e => fun env s => match env[i]? with | some (some a) => ((denE F e env s).st env fun d s1 => match aug2 o a d with | some r => .nx (env.set i (some r)) s1 | none => .no) | _ => .no
  | .raise c => fun env s => .ex c env s
  | .tryc b c cs h => fun env s => match denB F b env s with
    | .ex c' env' s' => if cs.contains c' then (if subX c' c then denB F h env' s' else .ex c' env' s') else .no
    | r => r
  | .tryx b c cs n h => fun env s => match denB F b env s with
    | .ex c' env' s' => if cs.contains c' then (if subX c' c then unS n (denB F h (env'.set n (some (.ref s'.length))) (s' ++ [.exo c'])) else .ex c' env' s') else .no
    | r => r
  | .try2 b cs c1 h1 c2 h2 => fun env s => match denB F b env s with
    | .ex c' env' s' => if cs.contains c' then (if subX c' c1 then denB F h1 env' s' else if subX c' c2 then denB F h2 env' s' else .ex c' env' s') else .no
    | r => r
  | .seta o f cs e => fun env s => (denE F e env s).st env fun d s1 => (denE F o env s1).st env fun a s2 => match stF f cs a d s2 with | some s3 => .nx env s3 | none => .no
  | .auga o f cs op e => fun env s => (denE F o env s).st env fun a s1 => match atr f cs a s1 with
    | some (v, _) => ((denE F e env s1).st env fun d s2 => match augF op f a v d s1 s2 with
      | some s3 => .nx env s3
      | none => .no)
    | none => .no
  | .augs o i op e => fun env s => (denE F o env s).st env fun a s1 => (denE F i env s1).st env fun k s2 => match rdL s2 a k with
      | some v => ((denE F e env s2).st env fun d s3 => match augL op a k v d s3 with
        | some s4 => .nx env s4
        | none => .no)
      | none => .no
  | .tset d es e => fun env s => (denE F e env s).st env fun v s1 => (denE F d env s1).st env fun a s2 => (denA F es env s2).st env fun x s3 => match setT a x v s3 with | some s4 => .nx env s4 | none => .no
  | .tryn b cs hs => fun env s => match denB F b env s with
    | .ex c' env' s' => if cs.contains c' then denHs F hs c' env' s' else .no
    | r => r
  | .asl ts e => fun env s => (denE F e env s).st env fun d s1 => match unL s1 d with | some ds => (match (if ds.length = ts.len then denGs ts ds env else none) with | some env1 => .nx env1 s1 | none => .no) | none => .no
  | .lks d c => fun env s => lkS (denE F d env s) s (denS F c env)
noncomputable def denB (F : Fn) : B → Env → S → SR
  | .nil => fun env s => .nx env s
  | .cons c b => fun env s => (denS F c env s).bind (denB F b)
noncomputable def denHs (F : Fn) : Hs → Nat → Env → S → SR
  | .nil => fun c' env s => .ex c' env s
  | .cons c h r => fun c' env s => if subX c' c then denB F h env s else denHs F r c' env s
end
theorem denA_len {F : Fn} : ∀ (es : Es) (env : Env) (s : S) (ds : List D) (s' : S), denA F es env s = .ok ds s' → ds.length = es.len
  | .nil, env, s, ds, s', h => by simp only [denA, R.ok.injEq] at h; rw [← h.1]; rfl
  | .cons e r, env, s, ds, s', h => by
    simp only [denA] at h
    cases h1 : denE F e env s with
    | ok x s1 =>
      rw [h1] at h
      simp only [R.bind_ok] at h
      cases h2 : denA F r env s1 with
      | ok xs s2 =>
        rw [h2] at h
        simp only [R.bind_ok, R.ok.injEq] at h
        rw [← h.1, List.length_cons, denA_len r _ _ _ _ h2]; rfl
      | ex c s => rw [h2] at h; cases h
      | no => rw [h2] at h; cases h
    | ex c s => rw [h1] at h; cases h
    | no => rw [h1] at h; cases h
/-! ### whether a text is it -/
def visB (sc : Scope) (x : Str) : Bool := match sc.names.lookup x with
  | some .local => true | some .cell => true | some .free => true | _ => false
def glB (sc : Scope) (x : Str) : Bool := sc.names.lookup x == some .globalImplicit
def dbg (x : Str) : Bool := !(x == ("__debug__" : Str)) && !(x == ("" : Str))
def dcl (x : Str) : Bool := !(x == ("__classdict__" : Str))
def locB (sc : Scope) (fnb : Str → Bool) (x : Str) : Bool := sc.names.lookup x == some .local || (sc.names.lookup x == some .cell && fnb x)
mutual
def chkG (N : List Str) (sc : Scope) (fnb : Str → Bool) : Tg → Expr → Bool
  | .nm i, .Name x _ => N[i]? == some x && locB sc fnb x
  | .tp ts, .Tuple es _ _ => noStars es && chkGs N sc fnb ts es
  | _, _ => false
def chkGs (N : List Str) (sc : Scope) (fnb : Str → Bool) : Tgs → List Expr → Bool
  | .nil, [] => true
  | .cons t r, e :: es => chkG N sc fnb t e && noStar e && chkGs N sc fnb r es
  | _, _ => false
end
def isTup : Expr → Bool
  | .Tuple _ _ _ => true
  | _ => false
variable (T : Tab) (N : List Str)
/-- an error's class, by its name -/
def chkN (sc : Scope) (d : Nat) : Expr → Bool
  | .Name y _ => if d == 13 then y == ("ValueError" : Str) && glB sc y && T.free.contains y else T.excs.contains (d, y) && glB sc y && dbg y
  | _ => false
def chkNs (sc : Scope) : List Nat → List Expr → Bool
  | [], [] => true
  | d :: ds, e :: es => chkN T sc d e && noStar e && chkNs sc ds es
  | _, _ => false
def chkX (sc : Scope) (ds : List Nat) : Expr → Bool
  | .Tuple es _ _ => chkNs T sc ds es && decide (ds.length ≤ 100)
  | e => match ds with
    | [d] => chkN T sc d e && noStar e
    | _ => false
def isCl (d : Nat) : Bool := d == 13 || T.excs.any (fun p => p.1 == d)
mutual
def chkE : Scope → E → Expr → Bool
  | sc, .bad, _ => true
  | sc, .var i, .Name x _ => N[i]? == some x && visB sc x && dbg x && dcl x
  | sc, .non, .Constant .none _ _ => true
  | sc, .bl b, .Constant (.bool c) _ _ => b == c
  | sc, .int i, .Constant (.int j) _ _ => i == j
  | sc, .str x, .Constant (.str y) _ _ => x == y
  | sc, .con x c, .Name y _ => x == y && glB sc y && dbg y && T.cons.contains (x, c)
  | sc, .neg a, .UnaryOp .USub x _ => chkE sc a x
  | sc, .bin o a b, .BinOp x p y _ => p == o.op && chkE sc a x && chkE sc b y
  | sc, .cmp o a b, .Compare x [p] [y] _ => p == o.op && chkE sc a x && chkE sc b y && noSet y
  | sc, .and a b, .BoolOp .And (x :: y :: r) p => chkE sc a x && chkE sc b (.BoolOp .And (y :: r) p)
  | sc, .or a b, .BoolOp .Or (x :: y :: r) p => chkE sc a x && chkE sc b (.BoolOp .Or (y :: r) p)
  | sc, .one a, .BoolOp _ [x] _ => chkE sc a x
  | sc, .not a, .UnaryOp .Not x _ => chkE sc a x
  | sc, .ite c a b, .IfExp z x y _ => chkT sc c z && chkE sc a x && chkE sc b y
  | sc, .tup es, .Tuple xs _ _ => chkA sc es xs && noStars xs
  | sc, .lst es, .List xs _ => chkA sc es xs && noStars xs
  | sc, .dk, .Dict [] [] _ => true
  | sc, .dt, .Dict [] [] _ => true
  | sc, .idx a i, .Subscript x y _ => chkE sc a x && chkE sc i y && noSl y
  | sc, .slc a lo hi, .Subscript x (.Slice l u none _) _ => chkE sc a x && chkO sc lo l && chkO sc hi u
  | sc, .rev a, .Subscript x (.Slice none none (some (.UnaryOp .USub (.Constant (.int k) _ _) _)) _) _ => k == 1 && chkE sc a x
  | sc, .call j es, .Call (.Name x _) xs [] _ => T.defs.lookup j == some (x, es.len) && glB sc x && dbg x && chkA sc es xs && noStars xs
  | sc, .blt b es, .Call (.Name x _) xs [] _ => x == b.name && glB sc x && T.free.contains x && chkA sc es xs && noStars xs && !xs.isEmpty
  | sc, .isi t a, .Call (.Name f _) [x, .Name y _] [] _ => f == ("isinstance" : Str) && y == Str.ofString t.name && glB sc f && glB sc y && T.free.contains f && T.free.contains y && t.ok && noStar x && chkE sc a x
  | sc, .mth m o es, .Call (.Attribute x f ap) xs [] p => f == m.name && noCall x && ap.endLine == p.line && chkE sc o x && chkA sc es xs && noStars xs && decide (xs.length < 30) && (m.no == xs.isEmpty)
  | sc, .lc own tg w c a, .ListComp x [⟨t, i, fs, .ofNat 0⟩] scope _ => chkW sc w t i && blkC N sc scope own && chkG N (relS scope sc) (fun x => scope.names.lookup x == some .cell) tg t && chkC (relS scope sc) c fs && chkE (relS scope sc) a x && noSet i && tg.slots.all (fun k => (own.map (·.2)).contains k)
  | sc, .lrg1 a, .Call (.Name f _) [.Call (.Name r _) [x] [] _] [] _ => f == ("list" : Str) && r == ("range" : Str) && glB sc f && glB sc r && T.free.contains f && T.free.contains r && chkE sc a x && noStar x
  | sc, .lrg2 a b, .Call (.Name f _) [.Call (.Name r _) [x, y] [] _] [] _ => f == ("list" : Str) && r == ("range" : Str) && glB sc f && glB sc r && T.free.contains f && T.free.contains r && chkE sc a x && chkE sc b y && noStar x && noStars [y]
  | sc, .lzip es, .Call (.Name f _) [.Call (.Name z _) [x, y] [] _] [] _ => f == ("list" : Str) && z == ("zip" : Str) && glB sc f && glB sc z && T.free.contains f && T.free.contains z && chkA sc es [x, y] && noStars [x, y]
  | sc, .isx al cs a, .Call (.Name f _) [x, y] [] _ => f == ("isinstance" : Str) && glB sc f && T.free.contains f && noStar x && chkX T sc cs y && al.all (fun c => T.excs.any (fun p => p.1 == c)) && cs.all (isCl T) && chkE sc a x
  | sc, .attr o f cs, .Attribute x g _ => f == g && noCall x && cs.all (fun c => T.noat.contains (c, g)) && chkE sc o x
  | sc, .mcall m tb o es, .Call (.Attribute x f ap) xs [] p => m == f && noCall x && ap.endLine == p.line && chkE sc o x && chkA sc es xs && noStars xs && decide (xs.length < 30) && tb.all (fun q => T.meths.contains (q.1, f, q.2, es.len + 1))
  | sc, .new c j es, .Call (.Name x _) xs [] _ => T.clss.contains (c, x) && glB sc x && dbg x && T.meths.contains (c, ("__init__" : Str), j, es.len + 1) && chkA sc es xs && noStars xs
  | sc, .ccall c j es, .Call (.Attribute (.Name x _) f ap) xs [] pos => f == ("__init__" : Str) && T.inis.contains (c, x, j, es.len) && glB sc x && dbg x && ap.endLine == pos.line && chkA sc es xs && noStars xs && decide (xs.length < 30) && !xs.isEmpty
  | sc, .dsp ks es, .Dict keys xs _ => decide (keys.map (fun o => o.map fun e => match e with | .Constant (.str x) _ _ => some x | _ => none) = ks.map (fun x => some (some x))) && decide (keys.length = xs.length) && decide (keys.length ≤ 15) && !keys.isEmpty && decide ks.Nodup && chkA sc es xs
  | sc, .tin neg es d, .Compare (.Tuple xs _ _) [p] [y] _ => p == nOp neg && chkA sc es xs && noStars xs && chkE sc d y && noSet y
  | sc, .tget d es, .Subscript x (.Tuple xs _ _) _ => chkE sc d x && chkA sc es xs && noStars xs
  | sc, .lk _ e, x => chkE sc e x
  | sc, .nset a, .Call (.Name f _) [.Call (.Name r _) [x] [] _] [] _ => f == ("len" : Str) && r == ("set" : Str) && glB sc f && glB sc r && T.free.contains f && T.free.contains r && chkE sc a x && noStar x
  | _, _, _ => false
def chkA : Scope → Es → List Expr → Bool
  | sc, .nil, [] => true
  | sc, .cons e r, x :: xs => chkE sc e x && chkA sc r xs
  | _, _, _ => false
def chkO : Scope → Eo → Option Expr → Bool
  | sc, .none, none => true
  | sc, .some e, some x => chkE sc e x
  | _, _, _ => false
def chkT : Scope → Te → Expr → Bool
  | sc, .cmp o a b, .Compare x [p] [y] _ => p == o.op && chkE sc a x && chkE sc b y && noSet y
  | sc, .val a, x => chkE sc a x && plainT x
  | sc, .not a, .UnaryOp .Not x _ => chkT sc a x
  | sc, .and a b, .BoolOp .And (x :: y :: r) p => chkT sc a x && chkT sc b (.BoolOp .And (y :: r) p)
  | sc, .or a b, .BoolOp .Or (x :: y :: r) p => chkT sc a x && chkT sc b (.BoolOp .Or (y :: r) p)
  | sc, .one a, .BoolOp _ [x] _ => chkT sc a x
  | sc, .chn o1 o2 a b c, .Compare x [p, q] [y, z] _ => p == o1.op && q == o2.op && chkE sc a x && chkE sc b y && chkE sc c z && noSet z
  | sc, .tin neg es d, .Compare (.Tuple xs _ _) [p] [y] _ => p == nOp neg && chkA sc es xs && noStars xs && chkE sc d y && noSet y
  | _, _, _ => false
def chkW : Scope → Wa → Expr → Expr → Bool
  | sc, .seq e, _, x => chkE sc e x
  | sc, .rng1 es, _, .Call (.Name f _) [x] [] _ => f == ("range" : Str) && glB sc f && T.free.contains f && chkA sc es [x] && noStar x
  | sc, .rng2 es, _, .Call (.Name f _) [x, y] [] _ => f == ("range" : Str) && glB sc f && T.free.contains f && chkA sc es [x, y] && noStar x && noStar y
  | sc, .rng3 es, _, .Call (.Name f _) [x, y, z] [] _ => f == ("range" : Str) && glB sc f && T.free.contains f && chkA sc es [x, y, z] && noStar x && noStars [y, z]
  | sc, .enum es, t, .Call (.Name f _) [x] [] _ => f == ("enumerate" : Str) && glB sc f && T.free.contains f && chkA sc es [x] && noStar x && isTup t
  | sc, .zip es, t, .Call (.Name f _) [x, y] [] _ => f == ("zip" : Str) && glB sc f && T.free.contains f && chkA sc es [x, y] && noStars [x, y] && isTup t
  | _, _, _, _ => false
def chkC : Scope → Co → List Expr → Bool
  | sc, .none, [] => true
  | sc, .some c, [x] => chkT sc c x
  | _, _, _ => false
end
/-- two names, of which one is kept in a cell: stored from the left -/
def celOk (sc : Scope) : Expr → Expr → Bool
  | .Tuple [.Name x _, .Name z _] _ _, .Tuple _ _ _ => !(sc.names.lookup x == some .local) || !(sc.names.lookup z == some .local)
  | _, _ => false
/-- two plain names from two values: stored from the right -/
def parOk (N : List Str) (sc : Scope) : Tg → Expr → Expr → Bool
  | .tp (.cons (.nm i) (.cons (.nm j) .nil)), .Tuple [.Name x px, .Name z pz] _ _, .Tuple [a, b] _ _ => N[i]? == some x && N[j]? == some z && i != j && sc.names.lookup x == some .local && sc.names.lookup z == some .local && !(z == x) && pz.line == px.line &&
    !([a, b].any fun | .Starred .. => true | _ => false) && !([a, b].all (foldedForSure 8)) && !([a, b].all (constantsAlone 8))
  | _, _, _ => false
def noTupV : Expr → Bool
  | .Tuple _ _ _ => false
  | _ => true
variable (sc : Scope)
mutual
/-- what a handler may say: constants, names, isinstance of errors, lists of these -/
def chkK : E → Expr → Bool
  | .non, .Constant .none _ _ => true
  | .bl b, .Constant (.bool c) _ _ => b == c
  | .int b, .Constant (.int c) _ _ => b == c
  | .str b, .Constant (.str c) _ _ => b == c
  | .tup es, .Tuple xs _ _ => chkKs es xs && noStars xs
  | .lst es, .List xs _ => chkKs es xs && noStars xs
  | .var i, .Name x _ => N[i]? == some x && visB sc x && dbg x && dcl x
  | .and a b, .BoolOp .And (x :: y :: r) p => chkK a x && chkK b (.BoolOp .And (y :: r) p)
  | .one a, .BoolOp _ [x] _ => chkK a x
  | .isx al cs a, .Call (.Name f _) [x, y] [] _ => f == ("isinstance" : Str) && glB sc f && T.free.contains f && noStar x && chkX T sc cs y && al.all (fun c => T.excs.any (fun p => p.1 == c)) && cs.all (isCl T) && chkK a x
  | _, _ => false
def chkKs : Es → List Expr → Bool
  | .nil, [] => true
  | .cons e r, x :: xs => chkK e x && chkKs r xs
  | _, _ => false
end
mutual
/-- a handler's statements -/
def chkHc : C → Stmt → Bool
  | .set i e, .Assign [.Name x _] y _ => N[i]? == some x && locB sc (fun _ => true) x && chkK T N sc e y && noLc y
  | .exp (.mth .append o (.cons e .nil)), .Expr (.Call (.Attribute x f ap) [y] [] p) _ => f == ("append" : Str) && noCall x && ap.endLine == p.line && chkK T N sc o x && chkK T N sc e y && noStar y
  | .ife (.val e) a b, .If z x y _ => chkK T N sc e z && plainT z && chkH a x && chkH b y
  | _, _ => false
def chkH : B → List Stmt → Bool
  | .nil, [] => true
  | .cons c b, x :: xs => chkHc c x && chkH b xs
  | _, _ => false
end
/-- handlers, one behind another -/
def chkHs (cs : List Nat) : Hs → List ExceptHandler → Bool
  | .nil, [] => true
  | .cons c h r, .ExceptHandler (some (.Name x _)) none (y :: ys) _ :: hds => T.excs.contains (c, x) && glB sc x && dbg x && cs.all (fun d => T.exms.contains (d, c)) && chkH T N sc h (y :: ys) && chkHs cs r hds
  | _, _ => false
mutual
def chkS : C → Stmt → Bool
  | .bad, _ => true
  | .set i e, .Assign [.Name x _] y _ => N[i]? == some x && locB sc (fun _ => true) x && chkE T N sc e y && (noLc y || !(sc.names.lookup x == some .local))
  | .setc i own tg w c a, .Assign [.Name x q] (.ListComp y [⟨t, j, fs, .ofNat 0⟩] scope p) sp => N[i]? == some x && sc.names.lookup x == some .local && q.line == p.line && !(scope.names.any fun (n, k) => n == x && (k == .local || k == .cell)) && chkE T N sc (.lc own tg w c a) (.ListComp y [⟨t, j, fs, .ofNat 0⟩] scope p)
  | .asg tg e, .Assign [t] y _ => chkG N sc (fun _ => true) tg t && chkE T N sc e y && noLc y && (noTupV y || parOk N sc tg t y || celOk sc t y) && noStar t && isTup t
  | .sub o i e, .Assign [.Subscript x k _] y _ => chkE T N sc o x && chkE T N sc i k && chkE T N sc e y && noSl k
  | .exp e, .Expr y _ => chkE T N sc e y && noLc y
  | .ret e, .Return (some y) _ => chkE T N sc e y
  | .retn, .Return none _ => true
  | .pas, .Pass _ => true
  | .brk, .Break _ => true
  | .cnt, .Continue _ => true
  | .ife c a b, .If z x y _ => chkT T N sc c z && chkB a x && chkB b y
  | .for_ tg w b, .For t i x [] _ => chkW T N sc w t i && chkG N sc (fun _ => true) tg t && chkB b x && noSet i
  | .whl _ c b, .While z x [] _ => chkT T N sc c z && chkB b x
  | .aug i o e, .AugAssign (.Name x _) p y _ => p == o.op && N[i]? == some x && locB sc (fun _ => true) x && chkE T N sc e y
  | .raise c, .Raise (some (.Call (.Name x _) [.Constant (.str _) _ _] [] _)) none _ => T.excs.contains (c, x) && glB sc x && dbg x
  | .tryc b c cs h, .Try body [.ExceptHandler (some (.Name x _)) none (y :: ys) _] [] [] _ => T.excs.contains (c, x) && glB sc x && dbg x && cs.all (fun d => T.exms.contains (d, c)) && chkB b body && chkH T N sc h (y :: ys)
  | .tryx b c cs n h, .Try body [.ExceptHandler (some (.Name x _)) (some z) (y :: ys) _] [] [] _ => T.excs.contains (c, x) && glB sc x && dbg x && cs.all (fun d => T.exms.contains (d, c)) && N[n]? == some z && sc.names.lookup z == some .local && chkB b body && chkH T N sc h (y :: ys)
  | .try2 b cs c1 h1 c2 h2, .Try body [.ExceptHandler (some (.Name x1 _)) none (y1 :: ys1) _, .ExceptHandler (some (.Name x2 _)) none (y2 :: ys2) _] [] [] _ => T.excs.contains (c1, x1) && glB sc x1 && dbg x1 && T.excs.contains (c2, x2) && glB sc x2 && dbg x2 &&
    cs.all (fun d => T.exms.contains (d, c1)) && cs.all (fun d => T.exms.contains (d, c2)) && chkB b body && chkH T N sc h1 (y1 :: ys1) && chkH T N sc h2 (y2 :: ys2)
  | .seta o f cs e, .Assign [.Attribute x g _] y _ => f == g && cs.all (fun c => T.noat.contains (c, g)) && chkE T N sc o x && chkE T N sc e y
  | .auga o f cs op e, .AugAssign (.Attribute x g _) p y _ => p == op.op && f == g && cs.all (fun c => T.noat.contains (c, g)) && chkE T N sc o x && chkE T N sc e y
  | .augs o i op e, .AugAssign (.Subscript x k _) p y _ => p == op.op && chkE T N sc o x && chkE T N sc i k && noSl k && chkE T N sc e y
  | .tset d es e, .Assign [.Subscript x (.Tuple xs _ _) _] y _ => chkE T N sc d x && chkA T N sc es xs && noStars xs && chkE T N sc e y
  | .tryn b cs hs, .Try body (h :: hds) [] [] _ => chkB b body && chkHs T N sc cs hs (h :: hds)
  | .lks _ c, x => chkS c x
  | .asl ts e, .Assign [.Tuple es k p] y _ => chkGs N sc (fun _ => true) ts es && noStars es && chkE T N sc e y && noLc y && noTupV y && noStar (.Tuple es k p)
  | _, _ => false
def chkB : B → List Stmt → Bool
  | .nil, [] => true
  | .cons c b, x :: xs => chkS c x && chkB b xs
  | _, _ => false
end
end T
set_option Elab.async false
set_option linter.all false
set_option maxRecDepth 100000
set_option maxHeartbeats 0
namespace T
open PySem PySem.Spec L2
open PyProof.Rows hiding St
structure Df where
  nm : Str
  ps : List Str
  N : List Str
  b : B
  cls : Str
  q : Str
/-- a method is no global -/
def Df.gn (d : Df) : Str := if d.cls == ("" : Str) then d.nm else ("" : Str)
def Df.at_ (d : Df) : Str × Option Str := if d.cls == ("" : Str) then (d.nm, none) else (d.cls, some d.nm)
def mkD (d : Df) (st : Stmt) : He.DefD := ⟨d.at_, d.nm, d.q, defArgs st, defBody st, defScope st, [], []⟩
def fnL (P : List (Nat × Df)) (ST : List Stmt) : List He.DefD := (P.zip ST).map fun p => mkD p.1.2 p.2
def faC : Str × CV → He.Fa
  | (x, .int i) => .int x i
  | (x, .str z) => .str x z
def nmX (T : Tab) (c : Nat) : Str := (T.excs.lookup c).getD ""
def nmC (T : Tab) (c : Nat) : Str := (T.clss.lookup c).getD ""
def faX (T : Tab) : List He.Fa := T.excs.map (fun p => .glo p.2) ++ (T.excs.map (fun p => .exc p.2) ++ T.exms.map fun p => .exm (nmX T p.1) (nmX T p.2) (subX p.1 p.2))
def faP (P : List (Nat × Df)) : List He.Fa := (P.filter fun p => !(p.2.gn == ("" : Str))).map fun p => .glo p.2.gn
def faL (P : List (Nat × Df)) (T : Tab) : List He.Fa := faP P ++ (T.free.map .free ++ (T.cons.map faC ++ faX T))
/-- the addresses of the classes -/
def adX (K : PySem.W.Frag) (T : Tab) : Ad := ⟨fun c => if c < 1000 then He.ga K (nmC T c) else He.ga K (nmX T (c - 1000)), fun c => He.ga K (nmX T c)⟩
/-- what isinstance needs of an error's class -/
def exC (K : PySem.W.Frag) (D : Addr) : Bool :=
  decide (PySem.W.findIn K (.ref D) "__getattribute__" = some (some (.builtin "BaseException.__getattribute__"))) && decide (PySem.W.findIn K (.ref D) "__getattr__" = some none) &&
  decide (PySem.W.subIn K (.ref D) (.type "BaseException") = some true) && PySem.W.hasDictIn K D && decide (PySem.W.findIn K (.ref D) "__class__" = some (some (.builtin "object.__class__"))) &&
  decide (PySem.W.specialIn K (.builtin "object.__class__") "__get__" = some (some (.builtin "getset_descriptor.__get__"))) && decide (PySem.W.takesIn K (.builtin "object.__class__") = some true) && decide (PySem.W.mroIn K D (.type "object") = some true)
def clB (K : PySem.W.Frag) (C : Addr) : Bool := PySem.W.plainGet K C Str.empty && PySem.W.hasDictIn K C && PySem.W.plainOver K C && decide (PySem.W.findIn K (.ref C) "__setattr__" = some (some (.builtin "object.__setattr__")))
def isL (T : Tab) : List Nat := 13 :: T.excs.map (·.1)
/-- what the list of facts has no word for -/
def exB (T : Tab) (P : List (Nat × Df)) (K : PySem.W.Frag) : Bool :=
  (T.excs.all fun p => exC K (He.ga K p.2)) && ((isL T).all fun d => decide (PySem.W.kitOne K (.type "NoneType") (uC (adX K T) d) = some false)) &&
  (T.excs.all fun p => (isL T).all fun d => decide (PySem.W.kitOne K (.ref (He.ga K p.2)) (uC (adX K T) d) = some (subX p.1 d))) &&
  (T.noat.all fun p => decide (p.1 < 1000) && clB K (He.ga K (nmC T p.1)) && decide (PySem.W.findIn K (.ref (He.ga K (nmC T p.1))) p.2 = some none)) &&
  (T.meths.all fun q => match P.lookup q.2.2.1 with
    | some d => decide (q.1 < 1000) && decide (q.2.2.2 = d.ps.length) && clB K (He.ga K (nmC T q.1)) && decide (PySem.W.findIn K (.ref (He.ga K (nmC T q.1))) q.2.1 = some (some (.ref (He.fAd K d.at_)))) && PySem.W.isFn K (.ref (He.fAd K d.at_))
    | none => false) &&
  (T.inis.all fun q => match P.lookup q.2.2.1 with
    | some d => decide (q.1 < 1000) && decide (q.2.2.2 = d.ps.length) && (nmC T q.1 == q.2.1) && decide (PySem.W.nsIn K mainGlobals q.2.1 = some (some (.ref (He.ga K q.2.1)))) && PySem.W.keepIn K (.ref (He.ga K q.2.1)) && PySem.W.readsIn K (He.ga K q.2.1) (.type "type") &&
      decide (PySem.W.specialIn K (.ref (He.ga K q.2.1)) "__getattribute__" = some (some (.builtin "type.__getattribute__"))) &&
      (match PySem.W.findCls K (.ref (He.ga K q.2.1)) (.type "type") "__init__" with | some (.val v) => v == .ref (He.fAd K d.at_) | _ => false)
    | none => false) &&
  T.clss.all fun p => decide (PySem.W.nsIn K mainGlobals p.2 = some (some (.ref (He.ga K p.2)))) && PySem.W.makesIn K (He.ga K p.2) && PySem.W.keepIn K (.ref (He.ga K p.2))
def obsY (fa : List He.Fa) (fn : List He.DefD) (ex : PySem.W.Frag → Bool) (K : PySem.W.Frag) : He.AlD := ((He.obsD fa fn K).1 && ex K, (He.obsD fa fn K).2)
/-- what the objects point at, but for the globals -/
def rfE (g : Addr → Option Obj) (as : List Addr) : List Addr := (as.flatMap fun a => match g a with | some o => He.refsD o | none => []).filter fun a => !(Nat.beq a mainGlobals)
def asE (g : Addr → Option Obj) : Nat → List Addr → List Addr
  | 0, as => as
  | n + 1, as => as ++ asE g n (rfE g as)
def frE (g : Addr → Option Obj) (n : Nat) : PySem.W.Frag := He.frG g (asE g n [mainGlobals] ++ [cStatics])
def obsYG (n : Nat) (fa : List He.Fa) (fn : List He.DefD) (ex : PySem.W.Frag → Bool) (g : Addr → Option Obj) : He.AlD := obsY fa fn ex (frE g n)
/-- the run told in parts: each wants less room -/
theorem ob_join {fa : List He.Fa} {fn : List He.DefD} {ex : PySem.W.Frag → Bool} {g : Addr → Option Obj} {n : Nat} (h1 : (fa.all fun f => He.Fa.ok (frE g n) f) = true) (h2 : (fn.all fun d => He.DefD.ok (frE g n) d) = true) (h3 : (fn.map fun d => He.fnW (frE g n) d.at_) = fn.map He.DefD.val) (h4 : ex (frE g n) = true) : obsYG n fa fn ex g = He.valD fn := by
  show ((((fa.all fun f => He.Fa.ok (frE g n) f) && (fn.all fun d => He.DefD.ok (frE g n) d)) && ex (frE g n)), (fn.map fun d => He.fnW (frE g n) d.at_)) = (true, fn.map He.DefD.val)
  rw [h1, h2, h3, h4]; rfl
theorem run_parts {σ α β γ δ : Type} {E : Option σ} {A : σ → α} {B : σ → β} {F1 F2 F4 : σ → Bool} {F3 : σ → γ} {O : σ → δ} {a : α} {b : β} {c : γ} {v : δ} (h1 : E.map (fun s => (A s, B s)) = some (a, b)) (h2 : E.map F1 = some true) (h3 : E.map F2 = some true) (h4 : E.map F3 = some c) (h5 : E.map F4 = some true)
    (hg : ∀ s, F1 s = true → F2 s = true → F3 s = c → F4 s = true → O s = v) : E.map (fun s => (A s, B s, O s)) = some (a, b, v) := by
  cases E with
  | none => cases h1
  | some s =>
    have e1 : (A s, B s) = (a, b) := Option.some.inj h1
    have e2 : A s = a := congrArg Prod.fst e1
    have e3 : B s = b := congrArg Prod.snd e1
    have e4 := hg s (Option.some.inj h2) (Option.some.inj h3) (Option.some.inj h4) (Option.some.inj h5)
    show some (A s, B s, O s) = some (a, b, v)
    rw [e2, e3, e4]
theorem obsY_says {fa : List He.Fa} {fn : List He.DefD} {ex : PySem.W.Frag → Bool} {K : PySem.W.Frag} (h : obsY fa fn ex K = He.valD fn) : He.SaysD fa fn K ∧ ex K = true := by
  have h1 : ((He.obsD fa fn K).1 && ex K) = true := congrArg Prod.fst h
  have h2 : (He.obsD fa fn K).2 = fn.map He.DefD.val := congrArg Prod.snd h
  rw [Bool.and_eq_true] at h1
  exact ⟨Prod.ext h1.1 h2, h1.2⟩
def hookY (n : Nat) (fa : List He.Fa) (fn : List He.DefD) (ex : PySem.W.Frag → Bool) : PySem.W.Hook where
  α := He.AlD
  obs s := obsYG n fa fn ex s.heap.get?
  val _ := He.valD fn
  says _ h := ∃ K : PySem.W.Frag, K.In h ∧ He.SaysD fa fn K ∧ ex K = true
  of _ _ e := ⟨_, He.frG_in, obsY_says e⟩
  keeps := by
    rintro _ _ _ ⟨K, hK, c⟩ k
    exact ⟨K, hK.keeps k, c⟩
theorem obsYG_eq {n : Nat} {fa : List He.Fa} {fn : List He.DefD} {ex : PySem.W.Frag → Bool} {g : Addr → Option Obj} {s : Shared} (h : ∀ a, g a = s.heap.get? a) : obsYG n fa fn ex g = (hookY n fa fn ex).obs s := by
  rw [funext h] <;> rfl
def d_is_whole : Df := ⟨"is_whole", ["thing"], ["thing"], (.cons (.ret (.and (.isi .int (.var 0)) (.one (.not (.isi .bl (.var 0)))))) .nil), "", "is_whole"⟩
def d_is_name : Df := ⟨"is_name", ["thing"], ["thing", "sign"], (.cons (.ife (.or (.not (.val (.isi .str (.var 0)))) (.or (.cmp .lt (.blt .len (.cons (.var 0) .nil)) (.int 1)) (.one (.cmp .gt (.blt .len (.cons (.var 0) .nil)) (.int 8))))) (.cons (.ret (.bl false)) .nil) .nil) (.cons (.for_ (.nm 1) (.seq (.var 0)) (.cons (.ife (.cmp .notin (.var 1) (.con "LETTERS_kinds" (.str "abcdefghijklmnopqrstuvwxyz"))) (.cons (.ret (.bl false)) .nil) .nil) .nil)) (.cons (.ret (.bl true)) .nil))), "", "is_name"⟩
def d_are_fields : Df := ⟨"are_fields", ["thing", "depth"], ["thing", "depth", "names", "field"], (.cons (.ife (.or (.not (.val (.isi .tup (.var 0)))) (.or (.cmp .lt (.blt .len (.cons (.var 0) .nil)) (.int 1)) (.one (.cmp .gt (.blt .len (.cons (.var 0) .nil)) (.con "MOST_FIELDS" (.int 6)))))) (.cons (.ret (.bl false)) .nil) .nil) (.cons (.set 2 (.lst .nil)) (.cons (.for_ (.nm 3) (.seq (.var 0)) (.cons (.ife (.or (.not (.val (.isi .tup (.var 3)))) (.or (.cmp .ne (.blt .len (.cons (.var 3) .nil)) (.int 2)) (.one (.not (.val (.call 13 (.cons (.idx (.var 3) (.int 0)) .nil))))))) (.cons (.ret (.bl false)) .nil) .nil) (.cons (.ife (.or (.cmp .in_ (.idx (.var 3) (.int 0)) (.var 2)) (.one (.not (.val (.call 15 (.cons (.idx (.var 3) (.int 1)) (.cons (.var 1) .nil))))))) (.cons (.ret (.bl false)) .nil) .nil) (.cons (.exp (.mth .append (.var 2) (.cons (.idx (.var 3) (.int 0)) .nil))) .nil)))) (.cons (.ret (.bl true)) .nil)))), "", "are_fields"⟩
def d_is_kind_within : Df := ⟨"is_kind_within", ["thing", "depth"], ["thing", "depth"], (.cons (.ife (.or (.cmp .lt (.var 1) (.int 1)) (.or (.not (.val (.isi .tup (.var 0)))) (.or (.cmp .lt (.blt .len (.cons (.var 0) .nil)) (.int 1)) (.one (.not (.val (.isi .str (.idx (.var 0) (.int 0))))))))) (.cons (.ret (.bl false)) .nil) .nil) (.cons (.ife (.cmp .eq (.idx (.var 0) (.int 0)) (.str "text")) (.cons (.ret (.cmp .eq (.blt .len (.cons (.var 0) .nil)) (.int 1))) .nil) .nil) (.cons (.ife (.cmp .ne (.blt .len (.cons (.var 0) .nil)) (.int 2)) (.cons (.ret (.bl false)) .nil) .nil) (.cons (.ife (.cmp .eq (.idx (.var 0) (.int 0)) (.str "num")) (.cons (.ret (.and (.call 12 (.cons (.idx (.var 0) (.int 1)) .nil)) (.and (.cmp .le (.int 1) (.idx (.var 0) (.int 1))) (.one (.cmp .le (.idx (.var 0) (.int 1)) (.int 4)))))) .nil) .nil) (.cons (.ife (.cmp .eq (.idx (.var 0) (.int 0)) (.str "row")) (.cons (.ret (.call 15 (.cons (.idx (.var 0) (.int 1)) (.cons (.bin .sub (.var 1) (.int 1)) .nil)))) .nil) .nil) (.cons (.ife (.or (.cmp .eq (.idx (.var 0) (.int 0)) (.str "rec")) (.one (.cmp .eq (.idx (.var 0) (.int 0)) (.str "pick")))) (.cons (.ret (.call 14 (.cons (.idx (.var 0) (.int 1)) (.cons (.bin .sub (.var 1) (.int 1)) .nil)))) .nil) .nil) (.cons (.ret (.bl false)) .nil))))))), "", "is_kind_within"⟩
def d_is_kind : Df := ⟨"is_kind", ["thing"], ["thing"], (.cons (.ret (.call 15 (.cons (.var 0) (.cons (.con "DEEPEST" (.int 5)) .nil)))) .nil), "", "is_kind"⟩
def d_is_way : Df := ⟨"is_way", ["thing"], ["thing"], (.cons (.ret (.and (.isi .str (.var 0)) (.one (.cmp .in_ (.var 0) (.tup (.cons (.str "copy") (.cons (.str "give") (.cons (.str "lend") (.cons (.str "lease") .nil))))))))) .nil), "", "is_way"⟩
def d_is_side : Df := ⟨"is_side", ["thing"], ["thing"], (.cons (.ret (.and (.call 12 (.cons (.var 0) .nil)) (.and (.cmp .le (.int 0) (.var 0)) (.one (.cmp .le (.var 0) (.int 1)))))) .nil), "", "is_side"⟩
def d_is_place : Df := ⟨"is_place", ["thing"], ["thing"], (.cons (.ife (.or (.not (.val (.isi .tup (.var 0)))) (.one (.cmp .ne (.blt .len (.cons (.var 0) .nil)) (.int 3)))) (.cons (.ret (.bl false)) .nil) .nil) (.cons (.ret (.and (.call 13 (.cons (.idx (.var 0) (.int 0)) .nil)) (.and (.call 93 (.cons (.idx (.var 0) (.int 1)) .nil)) (.one (.call 16 (.cons (.idx (.var 0) (.int 2)) .nil)))))) .nil)), "", "is_place"⟩
def d_are_places : Df := ⟨"are_places", ["thing"], ["thing", "names", "place"], (.cons (.ife (.not (.val (.isi .tup (.var 0)))) (.cons (.ret (.bl false)) .nil) .nil) (.cons (.set 1 .dk) (.cons (.for_ (.nm 2) (.seq (.var 0)) (.cons (.ife (.or (.not (.val (.call 95 (.cons (.var 2) .nil)))) (.one (.cmp .in_ (.idx (.var 2) (.int 0)) (.var 1)))) (.cons (.ret (.bl false)) .nil) .nil) (.cons (.sub (.var 1) (.idx (.var 2) (.int 0)) (.bl true)) .nil))) (.cons (.ret (.bl true)) .nil)))), "", "are_places"⟩
def d_is_paper : Df := ⟨"is_paper", ["thing"], ["thing"], (.cons (.ife (.or (.not (.val (.isi .tup (.var 0)))) (.one (.cmp .ne (.blt .len (.cons (.var 0) .nil)) (.int 4)))) (.cons (.ret (.bl false)) .nil) .nil) (.cons (.ife (.or (.not (.val (.call 13 (.cons (.idx (.var 0) (.int 0)) .nil)))) (.one (.not (.val (.call 94 (.cons (.idx (.var 0) (.int 1)) .nil)))))) (.cons (.ret (.bl false)) .nil) .nil) (.cons (.ife (.not (.val (.call 96 (.cons (.idx (.var 0) (.int 2)) .nil)))) (.cons (.ret (.bl false)) .nil) .nil) (.cons (.ret (.or (.cmp .is_ (.idx (.var 0) (.int 3)) .non) (.one (.call 16 (.cons (.idx (.var 0) (.int 3)) .nil))))) .nil)))), "", "is_paper"⟩
def d_past : Df := ⟨"past", ["text", "at", "signs"], ["text", "at", "signs"], (.cons (.ife (.cmp .ne (.slc (.var 0) (.some (.var 1)) (.some (.bin .add (.var 1) (.blt .len (.cons (.var 2) .nil))))) (.var 2)) (.cons (.raise 8) .nil) .nil) (.cons (.ret (.bin .add (.var 1) (.blt .len (.cons (.var 2) .nil)))) .nil)), "", "past"⟩
def d_word_from : Df := ⟨"word_from", ["text", "at"], ["text", "at", "end"], (.cons (.set 2 (.var 1)) (.cons (.whl 1000000 (.and (.cmp .lt (.var 2) (.blt .len (.cons (.var 0) .nil))) (.one (.cmp .in_ (.idx (.var 0) (.var 2)) (.con "LETTERS_texts" (.str "abcdefghijklmnopqrstuvwxyz"))))) (.cons (.aug 2 .add (.int 1)) .nil)) (.cons (.ret (.tup (.cons (.slc (.var 0) (.some (.var 1)) (.some (.var 2))) (.cons (.var 2) .nil)))) .nil))), "", "word_from"⟩
def d_name_from : Df := ⟨"name_from", ["text", "at"], ["text", "at", "word", "end"], (.cons (.asg (.tp (.cons (.nm 2) (.cons (.nm 3) .nil))) (.call 123 (.cons (.var 0) (.cons (.var 1) .nil)))) (.cons (.ife (.not (.val (.call 13 (.cons (.var 2) .nil)))) (.cons (.raise 8) .nil) .nil) (.cons (.ret (.tup (.cons (.var 2) (.cons (.call 122 (.cons (.var 0) (.cons (.var 3) (.cons (.str " ") .nil)))) .nil)))) .nil))), "", "name_from"⟩
def d_figure_from : Df := ⟨"figure_from", ["text", "at", "least", "most"], ["text", "at", "least", "most", "number"], (.cons (.for_ (.nm 4) (.rng2 (.cons (.var 2) (.cons (.bin .add (.var 3) (.int 1)) .nil))) (.cons (.ife (.cmp .eq (.slc (.var 0) (.some (.var 1)) (.some (.bin .add (.var 1) (.int 1)))) (.blt .str (.cons (.var 4) .nil))) (.cons (.ret (.tup (.cons (.var 4) (.cons (.bin .add (.var 1) (.int 1)) .nil)))) .nil) .nil) .nil)) (.cons (.raise 8) .nil)), "", "figure_from"⟩
def d_kind_from : Df := ⟨"kind_from", ["text", "at", "depth"], ["text", "at", "depth", "word", "end", "width", "kind", "fields"], (.cons (.ife (.cmp .gt (.var 2) (.int 5)) (.cons (.raise 8) .nil) .nil) (.cons (.asg (.tp (.cons (.nm 3) (.cons (.nm 4) .nil))) (.call 123 (.cons (.var 0) (.cons (.var 1) .nil)))) (.cons (.ife (.cmp .eq (.var 3) (.str "text")) (.cons (.ret (.tup (.cons (.tup (.cons (.str "text") .nil)) (.cons (.var 4) .nil)))) .nil) .nil) (.cons (.set 4 (.call 122 (.cons (.var 0) (.cons (.var 4) (.cons (.str " ") .nil))))) (.cons (.ife (.cmp .eq (.var 3) (.str "num")) (.cons (.asg (.tp (.cons (.nm 5) (.cons (.nm 4) .nil))) (.call 125 (.cons (.var 0) (.cons (.var 4) (.cons (.int 1) (.cons (.int 4) .nil)))))) (.cons (.ret (.tup (.cons (.tup (.cons (.str "num") (.cons (.var 5) .nil))) (.cons (.var 4) .nil)))) .nil)) .nil) (.cons (.ife (.cmp .eq (.var 3) (.str "row")) (.cons (.asg (.tp (.cons (.nm 6) (.cons (.nm 4) .nil))) (.call 126 (.cons (.var 0) (.cons (.var 4) (.cons (.bin .add (.var 2) (.int 1)) .nil))))) (.cons (.ret (.tup (.cons (.tup (.cons (.str "row") (.cons (.var 6) .nil))) (.cons (.var 4) .nil)))) .nil)) .nil) (.cons (.ife (.or (.cmp .eq (.var 3) (.str "rec")) (.one (.cmp .eq (.var 3) (.str "pick")))) (.cons (.asg (.tp (.cons (.nm 7) (.cons (.nm 4) .nil))) (.call 127 (.cons (.var 0) (.cons (.call 122 (.cons (.var 0) (.cons (.var 4) (.cons (.str "(") .nil)))) (.cons (.bin .add (.var 2) (.int 1)) .nil))))) (.cons (.ret (.tup (.cons (.tup (.cons (.var 3) (.cons (.var 7) .nil))) (.cons (.var 4) .nil)))) .nil)) .nil) (.cons (.raise 8) .nil)))))))), "", "kind_from"⟩
def d_fields_from : Df := ⟨"fields_from", ["text", "at", "depth"], ["text", "at", "depth", "fields", "name", "kind"], (.cons (.set 3 (.lst .nil)) (.cons (.whl 1000000 (.val (.bl true)) (.cons (.asg (.tp (.cons (.nm 4) (.cons (.nm 1) .nil))) (.call 124 (.cons (.var 0) (.cons (.var 1) .nil)))) (.cons (.asg (.tp (.cons (.nm 5) (.cons (.nm 1) .nil))) (.call 126 (.cons (.var 0) (.cons (.var 1) (.cons (.var 2) .nil))))) (.cons (.exp (.mth .append (.var 3) (.cons (.tup (.cons (.var 4) (.cons (.var 5) .nil))) .nil))) (.cons (.ife (.cmp .eq (.slc (.var 0) (.some (.var 1)) (.some (.bin .add (.var 1) (.int 1)))) (.str ")")) (.cons (.ret (.tup (.cons (.blt .tuple (.cons (.var 3) .nil)) (.cons (.bin .add (.var 1) (.int 1)) .nil)))) .nil) .nil) (.cons (.set 1 (.call 122 (.cons (.var 0) (.cons (.var 1) (.cons (.str ", ") .nil))))) .nil)))))) .nil)), "", "fields_from"⟩
def d_places_from : Df := ⟨"places_from", ["text", "at"], ["text", "at", "places", "name", "way", "kind"], (.cons (.ife (.cmp .eq (.slc (.var 0) (.some (.var 1)) (.some (.bin .add (.var 1) (.int 1)))) (.str ")")) (.cons (.ret (.tup (.cons (.tup .nil) (.cons (.bin .add (.var 1) (.int 1)) .nil)))) .nil) .nil) (.cons (.set 2 (.lst .nil)) (.cons (.whl 1000000 (.val (.bl true)) (.cons (.asg (.tp (.cons (.nm 3) (.cons (.nm 1) .nil))) (.call 124 (.cons (.var 0) (.cons (.var 1) .nil)))) (.cons (.asg (.tp (.cons (.nm 4) (.cons (.nm 1) .nil))) (.call 123 (.cons (.var 0) (.cons (.var 1) .nil)))) (.cons (.asg (.tp (.cons (.nm 5) (.cons (.nm 1) .nil))) (.call 126 (.cons (.var 0) (.cons (.call 122 (.cons (.var 0) (.cons (.var 1) (.cons (.str " ") .nil)))) (.cons (.int 1) .nil))))) (.cons (.exp (.mth .append (.var 2) (.cons (.tup (.cons (.var 3) (.cons (.var 4) (.cons (.var 5) .nil)))) .nil))) (.cons (.ife (.cmp .eq (.slc (.var 0) (.some (.var 1)) (.some (.bin .add (.var 1) (.int 1)))) (.str ")")) (.cons (.ret (.tup (.cons (.blt .tuple (.cons (.var 2) .nil)) (.cons (.bin .add (.var 1) (.int 1)) .nil)))) .nil) .nil) (.cons (.set 1 (.call 122 (.cons (.var 0) (.cons (.var 1) (.cons (.str ", ") .nil))))) .nil))))))) .nil))), "", "places_from"⟩
def d_read_kind : Df := ⟨"read_kind", ["text"], ["text", "kind", "end"], (.cons (.asg (.tp (.cons (.nm 1) (.cons (.nm 2) .nil))) (.call 126 (.cons (.var 0) (.cons (.int 0) (.cons (.int 1) .nil))))) (.cons (.ife (.or (.cmp .ne (.var 2) (.blt .len (.cons (.var 0) .nil))) (.one (.not (.val (.call 16 (.cons (.var 1) .nil)))))) (.cons (.raise 8) .nil) .nil) (.cons (.ret (.var 1)) .nil))), "", "read_kind"⟩
def d_read_paper : Df := ⟨"read_paper", ["text"], ["text", "name", "at", "side", "places", "result", "paper"], (.cons (.asg (.tp (.cons (.nm 1) (.cons (.nm 2) .nil))) (.call 124 (.cons (.var 0) (.cons (.call 122 (.cons (.var 0) (.cons (.int 0) (.cons (.str "door ") .nil)))) .nil)))) (.cons (.asg (.tp (.cons (.nm 3) (.cons (.nm 2) .nil))) (.call 125 (.cons (.var 0) (.cons (.var 2) (.cons (.int 0) (.cons (.int 1) .nil)))))) (.cons (.asg (.tp (.cons (.nm 4) (.cons (.nm 2) .nil))) (.call 136 (.cons (.var 0) (.cons (.call 122 (.cons (.var 0) (.cons (.var 2) (.cons (.str " (") .nil)))) .nil)))) (.cons (.set 2 (.call 122 (.cons (.var 0) (.cons (.var 2) (.cons (.str " ") .nil))))) (.cons (.set 5 .non) (.cons (.ife (.cmp .eq (.slc (.var 0) (.some (.var 2)) .none) (.str "none")) (.cons (.set 2 (.blt .len (.cons (.var 0) .nil))) .nil) (.cons (.asg (.tp (.cons (.nm 5) (.cons (.nm 2) .nil))) (.call 126 (.cons (.var 0) (.cons (.var 2) (.cons (.int 1) .nil))))) .nil)) (.cons (.set 6 (.tup (.cons (.var 1) (.cons (.var 3) (.cons (.var 4) (.cons (.var 5) .nil)))))) (.cons (.ife (.or (.cmp .ne (.var 2) (.blt .len (.cons (.var 0) .nil))) (.one (.not (.val (.call 97 (.cons (.var 6) .nil)))))) (.cons (.raise 8) .nil) .nil) (.cons (.ret (.var 6)) .nil))))))))), "", "read_paper"⟩
def d_l_draws : Df := ⟨"_law_draws", ["cell", "count"], ["cell", "count", "row", "rest", "base", "more", "k", "stir"], (.cons (.set 2 (.lst .nil)) (.cons (.set 3 (.bin .sub (.var 0) (.bin .pow (.int 10) (.int 18)))) (.cons (.set 4 (.bin .add (.bin .mod (.var 0) (.int 1000000007)) (.int 1))) (.cons (.set 5 (.bin .mod (.var 0) (.int 999983))) (.cons (.for_ (.nm 6) (.rng1 (.cons (.var 1) .nil)) (.cons (.set 7 (.bin .mod (.bin .mul (.var 4) (.bin .add (.bin .mul (.int 2) (.var 6)) (.int 3))) (.int 2147483647))) (.cons (.set 7 (.bin .mod (.bin .add (.bin .pow (.var 7) (.int 5)) (.bin .pow (.bin .add (.var 6) (.int 1)) (.int 3))) (.int 2147483629))) (.cons (.set 7 (.bin .fdiv (.bin .mod (.bin .pow (.bin .add (.var 7) (.var 5)) (.int 3)) (.int 2147483587)) (.int 16))) (.cons (.ife (.cmp .gt (.var 3) (.int 0)) (.cons (.set 7 (.bin .mod (.var 3) (.int 1000003))) (.cons (.set 3 (.bin .fdiv (.var 3) (.int 1000003))) .nil)) .nil) (.cons (.exp (.mth .append (.var 2) (.cons (.var 7) .nil))) .nil)))))) (.cons (.ret (.var 2)) .nil)))))), "", "_law_draws"⟩
def d_l_same_v2 : Df := ⟨"_law_same", ["found", "due"], ["found", "due", "one", "other"], (.cons (.ife (.val (.isi .tup (.var 1))) (.cons (.ife (.or (.not (.val (.isi .tup (.var 0)))) (.one (.cmp .ne (.blt .len (.cons (.var 0) .nil)) (.blt .len (.cons (.var 1) .nil))))) (.cons (.ret (.bl false)) .nil) .nil) (.cons (.ret (.blt .all (.cons (.lc [("one", 2), ("other", 3)] (.tp (.cons (.nm 2) (.cons (.nm 3) .nil))) (.zip (.cons (.var 0) (.cons (.var 1) .nil))) .none (.call 130 (.cons (.var 2) (.cons (.var 3) .nil)))) .nil))) .nil)) .nil) (.cons (.ife (.cmp .is_ (.var 1) .non) (.cons (.ret (.cmp .is_ (.var 0) .non)) .nil) .nil) (.cons (.ife (.val (.isi .str (.var 1))) (.cons (.ret (.and (.isi .str (.var 0)) (.one (.cmp .eq (.var 0) (.var 1))))) .nil) .nil) (.cons (.ret (.and (.isi .int (.var 0)) (.and (.not (.isi .bl (.var 0))) (.one (.cmp .eq (.var 0) (.var 1)))))) .nil)))), "", "_law_same"⟩
def d_l_level : Df := ⟨"_law_level", ["level", "word", "one"], ["level", "word", "one", "signs", "kind", "letters", "many", "names", "lead", "twice", "parts", "fields", "head", "made", "j"], (.cons (.asg (.tp (.cons (.nm 3) (.cons (.nm 4) .nil))) (.var 0)) (.cons (.ife (.cmp .eq (.var 1) (.int 0)) (.cons (.ret (.tup (.cons (.bin .add (.str "row ") (.var 3)) (.cons (.idx (.lst (.cons .non (.cons (.tup (.cons (.str "row") (.cons (.var 4) .nil))) .nil))) (.blt .int (.cons (.cmp .isnot (.var 4) .non) .nil))) .nil)))) .nil) .nil) (.cons (.set 5 (.str "abcdefghijklmnopqrstuvwxyz")) (.cons (.set 6 (.idx (.lst (.cons (.int 1) (.cons (.int 2) (.cons (.int 3) (.cons (.int 4) (.cons (.int 5) (.cons (.int 6) (.cons (.int 6) (.cons (.int 7) (.cons (.int 9) .nil)))))))))) (.bin .mod (.var 2) (.int 9)))) (.cons (.set 7 (.lc [("j", 14)] (.nm 14) (.rng1 (.cons (.var 6) .nil)) .none (.bin .mul (.idx (.var 5) (.bin .mod (.bin .add (.bin .fdiv (.var 2) (.int 9)) (.bin .mul (.int 7) (.var 14))) (.int 26))) (.bin .add (.int 1) (.bin .mod (.bin .add (.bin .fdiv (.var 2) (.int 234)) (.bin .mul (.int 3) (.var 14))) (.int 8)))))) (.cons (.set 8 (.bin .mod (.bin .fdiv (.var 2) (.int 1872)) (.var 6))) (.cons (.set 9 (.and (.cmp .eq (.bin .mod (.bin .fdiv (.var 2) (.int 16848)) (.int 6)) (.int 1)) (.one (.cmp .gt (.var 6) (.int 1))))) (.cons (.ife (.val (.var 9)) (.cons (.sub (.var 7) (.bin .sub (.var 8) (.int 1)) (.idx (.var 7) (.var 8))) .nil) .nil) (.cons (.setc 10 [("j", 14)] (.nm 14) (.rng1 (.cons (.var 6) .nil)) .none (.bin .add (.bin .add (.idx (.var 7) (.var 14)) (.str " num ")) (.blt .str (.cons (.bin .add (.int 1) (.bin .mod (.var 14) (.int 4))) .nil)))) (.cons (.sub (.var 10) (.var 8) (.bin .add (.bin .add (.idx (.var 7) (.var 8)) (.str " ")) (.var 3))) (.cons (.setc 11 [("j", 14)] (.nm 14) (.rng1 (.cons (.var 6) .nil)) .none (.tup (.cons (.idx (.var 7) (.var 14)) (.cons (.tup (.cons (.str "num") (.cons (.bin .add (.int 1) (.bin .mod (.var 14) (.int 4))) .nil))) .nil)))) (.cons (.sub (.var 11) (.var 8) (.tup (.cons (.idx (.var 7) (.var 8)) (.cons (.var 4) .nil)))) (.cons (.set 12 (.idx (.lst (.cons (.str "row") (.cons (.str "rec") (.cons (.str "pick") .nil)))) (.var 1))) (.cons (.set 13 (.tup (.cons (.var 12) (.cons (.blt .tuple (.cons (.var 11) .nil)) .nil)))) (.cons (.ife (.or (.cmp .is_ (.var 4) .non) (.or (.cmp .gt (.var 6) (.int 6)) (.one (.val (.var 9))))) (.cons (.set 13 .non) .nil) .nil) (.cons (.ret (.tup (.cons (.bin .add (.bin .add (.bin .add (.var 12) (.str " (")) (.mth .join (.str ", ") (.cons (.var 10) .nil))) (.str ")")) (.cons (.var 13) .nil)))) .nil)))))))))))))))), "", "_law_level"⟩
def d_l_ended : Df := ⟨"_law_ended", ["signs", "way"], ["signs", "way"], (.cons (.ife (.and (.cmp .eq (.var 1) (.int 5)) (.one (.cmp .eq (.slc (.var 0) (.some (.neg (.int 1))) .none) (.str ")")))) (.cons (.ret (.tup (.cons (.slc (.var 0) .none (.some (.neg (.int 1)))) (.cons (.bl false) .nil)))) .nil) .nil) (.cons (.ife (.cmp .eq (.var 1) (.int 6)) (.cons (.ret (.tup (.cons (.bin .add (.var 0) (.str ")")) (.cons (.bl false) .nil)))) .nil) .nil) (.cons (.ife (.cmp .eq (.var 1) (.int 7)) (.cons (.ret (.tup (.cons (.bin .add (.var 0) (.str " ")) (.cons (.bl false) .nil)))) .nil) .nil) (.cons (.ret (.tup (.cons (.var 0) (.cons (.bl true) .nil)))) .nil)))), "", "_law_ended"⟩
def d_l_asked_v3 : Df := ⟨"_law_asked", ["cell"], ["cell", "r", "many", "level", "k", "signs", "whole", "kind", "way", "paper"], (.cons (.set 1 (.call 98 (.cons (.var 0) (.cons (.int 16) .nil)))) (.cons (.set 2 (.idx (.lst (.cons (.int 0) (.cons (.int 1) (.cons (.int 2) (.cons (.int 3) (.cons (.int 4) (.cons (.int 4) (.cons (.int 5) (.cons (.int 7) .nil))))))))) (.bin .mod (.idx (.var 1) (.int 0)) (.int 8)))) (.cons (.set 3 (.idx (.lst (.cons (.tup (.cons (.str "text") (.cons (.tup (.cons (.str "text") .nil)) .nil))) (.cons (.tup (.cons (.str "num 4") (.cons (.tup (.cons (.str "num") (.cons (.int 4) .nil))) .nil))) (.cons (.tup (.cons (.str "num 1") (.cons (.tup (.cons (.str "num") (.cons (.int 1) .nil))) .nil))) .nil)))) (.bin .mod (.idx (.var 1) (.int 1)) (.int 3)))) (.cons (.for_ (.nm 4) (.rng1 (.cons (.var 2) .nil)) (.cons (.set 3 (.call 214 (.cons (.var 3) (.cons (.bin .mod (.idx (.var 1) (.bin .add (.int 2) (.var 4))) (.int 3)) (.cons (.idx (.var 1) (.bin .add (.int 9) (.bin .mod (.var 4) (.int 7)))) .nil))))) .nil)) (.cons (.asg (.tp (.cons (.nm 5) (.cons (.nm 6) .nil))) (.call 215 (.cons (.idx (.var 3) (.int 0)) (.cons (.bin .mod (.bin .fdiv (.idx (.var 1) (.int 0)) (.int 8)) (.int 8)) .nil)))) (.cons (.set 7 (.idx (.var 3) (.int 1))) (.cons (.ife (.or (.cmp .gt (.var 2) (.int 4)) (.one (.not (.val (.var 6))))) (.cons (.set 7 .non) .nil) .nil) (.cons (.set 8 (.bin .mod (.bin .fdiv (.idx (.var 1) (.int 0)) (.int 64)) (.int 3))) (.cons (.ife (.cmp .eq (.var 8) (.int 0)) (.cons (.ret (.tup (.cons (.var 5) (.cons (.var 7) (.cons .non .nil))))) .nil) .nil) (.cons (.set 9 .non) (.cons (.ife (.cmp .eq (.var 8) (.int 1)) (.cons (.ife (.cmp .isnot (.var 7) .non) (.cons (.set 9 (.tup (.cons (.str "ab") (.cons (.int 1) (.cons (.tup (.cons (.tup (.cons (.str "x") (.cons (.str "lend") (.cons (.var 7) .nil)))) (.cons (.tup (.cons (.str "yy") (.cons (.str "copy") (.cons (.tup (.cons (.str "text") .nil)) .nil)))) .nil))) (.cons .non .nil)))))) .nil) .nil) (.cons (.ret (.tup (.cons (.bin .add (.bin .add (.str "door ab 1 (x lend ") (.var 5)) (.str ", yy copy text) none")) (.cons .non (.cons (.var 9) .nil))))) .nil)) .nil) (.cons (.ife (.cmp .isnot (.var 7) .non) (.cons (.set 9 (.tup (.cons (.str "abcdefgh") (.cons (.int 0) (.cons (.tup .nil) (.cons (.var 7) .nil)))))) .nil) .nil) (.cons (.ret (.tup (.cons (.bin .add (.str "door abcdefgh 0 () ") (.var 5)) (.cons .non (.cons (.var 9) .nil))))) .nil))))))))))))), "", "_law_asked"⟩
def d_l_held : Df := ⟨"_law_held", ["signs", "kind", "paper"], ["signs", "kind", "paper", "one", "due", "found", "refused"], (.cons (.for_ (.tp (.cons (.nm 3) (.cons (.nm 4) .nil))) (.seq (.lst (.cons (.tup (.cons (.str "kind") (.cons (.var 1) .nil))) (.cons (.tup (.cons (.str "paper") (.cons (.var 2) .nil))) .nil)))) (.cons (.set 5 .non) (.cons (.set 6 (.bl false)) (.cons (.tryc (.cons (.ife (.cmp .eq (.var 3) (.str "kind")) (.cons (.set 5 (.call 128 (.cons (.var 0) .nil))) .nil) (.cons (.set 5 (.call 137 (.cons (.var 0) .nil))) .nil)) .nil) 8 [8] (.cons (.set 6 (.bl true)) .nil)) (.cons (.ife (.cmp .ne (.var 6) (.cmp .is_ (.var 4) .non)) (.cons (.ret (.bl false)) .nil) .nil) (.cons (.ife (.and (.cmp .isnot (.var 4) .non) (.one (.not (.val (.call 130 (.cons (.var 5) (.cons (.var 4) .nil))))))) (.cons (.ret (.bl false)) .nil) .nil) .nil)))))) (.cons (.ret (.bl true)) .nil)), "", "_law_held"⟩
def d_l_deep : Df := ⟨"_law_deep", ["number"], ["number", "many", "head", "signs"], (.cons (.set 1 (.bin .add (.int 5) (.bin .mod (.bin .fdiv (.var 0) (.int 12)) (.int 1496)))) (.cons (.ife (.cmp .eq (.bin .mod (.bin .fdiv (.var 0) (.int 17952)) (.int 4)) (.int 1)) (.cons (.set 2 (.idx (.lst (.cons (.str "rec (") (.cons (.str "pick (") (.cons (.str "rec (a pick (") (.cons (.str "rec (") .nil))))) (.bin .mod (.var 0) (.int 4)))) (.cons (.ret (.bin .add (.bin .add (.bin .add (.var 2) (.bin .mul (.str "a num 1, ") (.var 1))) (.str "a text")) (.bin .mul (.str ")") (.bin .add (.int 1) (.blt .int (.cons (.cmp .eq (.bin .mod (.var 0) (.int 4)) (.int 2)) .nil)))))) .nil)) .nil) (.cons (.set 2 (.idx (.lst (.cons (.str "row ") (.cons (.str "rec (a ") (.cons (.str "pick (abcdefgh ") (.cons (.str "rec (a num 1, b ") .nil))))) (.bin .mod (.var 0) (.int 4)))) (.cons (.set 3 (.bin .add (.bin .mul (.var 2) (.var 1)) (.str "text"))) (.cons (.ife (.and (.cmp .gt (.bin .mod (.var 0) (.int 4)) (.int 0)) (.one (.cmp .gt (.bin .mod (.bin .fdiv (.var 0) (.int 4)) (.int 3)) (.int 0)))) (.cons (.set 3 (.bin .add (.var 3) (.bin .mul (.str ")") (.bin .add (.bin .sub (.var 1) (.bin .mod (.bin .fdiv (.var 0) (.int 4)) (.int 3))) (.int 1))))) .nil) .nil) (.cons (.ret (.var 3)) .nil)))))), "", "_law_deep"⟩
def d_law_v20 : Df := ⟨"law", ["script"], ["script", "cell", "row", "signs", "kind", "paper"], (.cons (.for_ (.nm 1) (.seq (.bin .add (.lst (.cons (.blt .len (.cons (.var 0) .nil)) .nil)) (.var 0))) (.cons (.asg (.tp (.cons (.nm 3) (.cons (.nm 4) (.cons (.nm 5) .nil)))) (.call 216 (.cons (.var 1) .nil))) (.cons (.ife (.not (.val (.call 217 (.cons (.var 3) (.cons (.var 4) (.cons (.var 5) .nil)))))) (.cons (.ret (.bl false)) .nil) .nil) .nil))) (.cons (.set 2 (.call 98 (.cons (.idx (.bin .add (.var 0) (.lst (.cons (.int 0) .nil))) (.int 0)) (.cons (.int 18) .nil)))) (.cons (.ife (.cmp .gt (.bin .mod (.idx (.var 2) (.int 16)) (.int 4)) (.int 0)) (.cons (.ret (.bl true)) .nil) .nil) (.cons (.ife (.cmp .eq (.bin .mod (.bin .fdiv (.idx (.var 2) (.int 16)) (.int 4)) (.int 4)) (.int 3)) (.cons (.ret (.call 217 (.cons (.bin .add (.bin .add (.str "door a 0 (") (.bin .mul (.str "b copy text, ") (.bin .add (.int 1) (.bin .mod (.idx (.var 2) (.int 17)) (.int 199))))) (.str "b copy text) none")) (.cons .non (.cons .non .nil))))) .nil) .nil) (.cons (.ret (.call 217 (.cons (.bin .add (.idx (.lst (.cons (.str "") (.cons (.str "door a 0 () ") (.cons (.str "door a 0 (b give ") .nil)))) (.bin .mod (.bin .fdiv (.idx (.var 2) (.int 16)) (.int 4)) (.int 4))) (.call 218 (.cons (.idx (.var 2) (.int 17)) .nil))) (.cons .non (.cons .non .nil))))) .nil))))), "", "law"⟩
def G : List (Nat × Df) := [(12, d_is_whole), (13, d_is_name), (14, d_are_fields), (15, d_is_kind_within), (16, d_is_kind), (93, d_is_way), (94, d_is_side), (95, d_is_place), (96, d_are_places), (97, d_is_paper), (122, d_past), (123, d_word_from), (124, d_name_from), (125, d_figure_from), (126, d_kind_from), (127, d_fields_from), (136, d_places_from), (128, d_read_kind), (137, d_read_paper), (98, d_l_draws), (130, d_l_same_v2), (214, d_l_level), (215, d_l_ended), (216, d_l_asked_v3), (217, d_l_held), (218, d_l_deep), (219, d_law_v20)]
abbrev i_is_whole : Nat := 12
theorem G_is_whole : G.lookup 12 = some d_is_whole := by kernel_rfl
abbrev i_is_name : Nat := 13
theorem G_is_name : G.lookup 13 = some d_is_name := by kernel_rfl
abbrev i_are_fields : Nat := 14
theorem G_are_fields : G.lookup 14 = some d_are_fields := by kernel_rfl
abbrev i_is_kind_within : Nat := 15
theorem G_is_kind_within : G.lookup 15 = some d_is_kind_within := by kernel_rfl
abbrev i_is_kind : Nat := 16
theorem G_is_kind : G.lookup 16 = some d_is_kind := by kernel_rfl
abbrev i_is_way : Nat := 93
theorem G_is_way : G.lookup 93 = some d_is_way := by kernel_rfl
abbrev i_is_side : Nat := 94
theorem G_is_side : G.lookup 94 = some d_is_side := by kernel_rfl
abbrev i_is_place : Nat := 95
theorem G_is_place : G.lookup 95 = some d_is_place := by kernel_rfl
abbrev i_are_places : Nat := 96
theorem G_are_places : G.lookup 96 = some d_are_places := by kernel_rfl
abbrev i_is_paper : Nat := 97
theorem G_is_paper : G.lookup 97 = some d_is_paper := by kernel_rfl
abbrev i_past : Nat := 122
theorem G_past : G.lookup 122 = some d_past := by kernel_rfl
abbrev i_word_from : Nat := 123
theorem G_word_from : G.lookup 123 = some d_word_from := by kernel_rfl
abbrev i_name_from : Nat := 124
theorem G_name_from : G.lookup 124 = some d_name_from := by kernel_rfl
abbrev i_figure_from : Nat := 125
theorem G_figure_from : G.lookup 125 = some d_figure_from := by kernel_rfl
abbrev i_kind_from : Nat := 126
theorem G_kind_from : G.lookup 126 = some d_kind_from := by kernel_rfl
abbrev i_fields_from : Nat := 127
theorem G_fields_from : G.lookup 127 = some d_fields_from := by kernel_rfl
abbrev i_places_from : Nat := 136
theorem G_places_from : G.lookup 136 = some d_places_from := by kernel_rfl
abbrev i_read_kind : Nat := 128
theorem G_read_kind : G.lookup 128 = some d_read_kind := by kernel_rfl
abbrev i_read_paper : Nat := 137
theorem G_read_paper : G.lookup 137 = some d_read_paper := by kernel_rfl
abbrev i_l_draws : Nat := 98
theorem G_l_draws : G.lookup 98 = some d_l_draws := by kernel_rfl
abbrev i_l_same_v2 : Nat := 130
theorem G_l_same_v2 : G.lookup 130 = some d_l_same_v2 := by kernel_rfl
abbrev i_l_level : Nat := 214
theorem G_l_level : G.lookup 214 = some d_l_level := by kernel_rfl
abbrev i_l_ended : Nat := 215
theorem G_l_ended : G.lookup 215 = some d_l_ended := by kernel_rfl
abbrev i_l_asked_v3 : Nat := 216
theorem G_l_asked_v3 : G.lookup 216 = some d_l_asked_v3 := by kernel_rfl
abbrev i_l_held : Nat := 217
theorem G_l_held : G.lookup 217 = some d_l_held := by kernel_rfl
abbrev i_l_deep : Nat := 218
theorem G_l_deep : G.lookup 218 = some d_l_deep := by kernel_rfl
abbrev i_law_v20 : Nat := 219
theorem G_law_v20 : G.lookup 219 = some d_law_v20 := by kernel_rfl
/-! ### the law's text and its top -/
def Tb : Tab := ⟨G.map fun d => (d.1, d.2.gn, d.2.ps.length), [("DEEPEST", .int 5), ("LETTERS_kinds", .str "abcdefghijklmnopqrstuvwxyz"), ("LETTERS_texts", .str "abcdefghijklmnopqrstuvwxyz"), ("MOST_FIELDS", .int 6)], ["isinstance", "int", "bool", "str", "len", "tuple", "range", "all", "zip"], [(0, "GateError"), (8, "NoText")], [(8, 8)], [], [], [], []⟩
def topOf (i : Nat) : Stmt := PySem.Challenge.pw_tonguegate_k64_deep_and_wide_texts.main.body.getD i (.Pass ⟨0, 0, 0, 0⟩)
def inOf (s : Stmt) (k : Nat) : Stmt := match s with
  | .ClassDef _ _ _ body _ _ _ _ _ _ _ => body.getD k (.Pass ⟨0, 0, 0, 0⟩)
  | _ => .Pass ⟨0, 0, 0, 0⟩
def ST : List Stmt := [topOf 7, topOf 8, topOf 9, topOf 10, topOf 11, topOf 13, topOf 14, topOf 15, topOf 16, topOf 17, topOf 20, topOf 21, topOf 22, topOf 23, topOf 24, topOf 25, topOf 26, topOf 27, topOf 28, topOf 30, topOf 31, topOf 32, topOf 33, topOf 34, topOf 35, topOf 36, topOf 37]
abbrev RowO : PySem.W.OpenRow := PySem.W.OpenLaw.row PySem.Challenge.rw_tonguegate_k64_deep_and_wide_texts
abbrev Hk : PySem.W.Hook := hookY 4 (faL G Tb) (fnL G ST) (exB Tb G)
def Ob (s : PySem.W.SharedT) : He.AlD := obsYG 4 (faL G Tb) (fnL G ST) (exB Tb G) (HandSHeadRun.getT s)
def loose : List Str := (["GateError", "NoText", "LETTERS_kinds", "DEEPEST", "MOST_FIELDS", "is_whole", "is_name", "are_fields", "is_kind_within", "is_kind", "is_way", "is_side"] : List Str) ++ (["is_place", "are_places", "is_paper", "LETTERS_texts", "past", "word_from", "name_from", "figure_from", "kind_from", "fields_from", "places_from", "read_kind"] : List Str) ++ (["read_paper", "_law_draws", "_law_same", "_law_level", "_law_ended", "_law_asked", "_law_held", "_law_deep"] : List Str)
noncomputable abbrev EndO (w : World) (os : PySem.OsState) := HandSHeadRun.endF (HandSHeadRun.stepQ (HandSHeadRun.denQ HandSHeadRun.tabQ) RowO.prog w) 30000 RowO.prog w os
noncomputable abbrev KfO (s : PySem.W.SharedT) := frE (HandSHeadRun.getT s) 4
theorem run_a (w : World) (os : PySem.OsState) : Option.map (fun s => (HandSHeadRun.looksF RowO.prog (PySem.W.boot_heap w.params) s.abs, HandSHeadRun.seenQ (PySem.W.view RowO.prog [37]) loose (PySem.importedModules RowO.prog.main.body) (fun s => PySem.W.xlAt (PySem.W.view RowO.prog [37]) [] s && PySem.W.recOk RowO.records s) s.abs)) (EndO w os) = some (true, PySem.W.openGood (PySem.W.view RowO.prog [37]) loose) := by kernel_rfl
theorem run_f (w : World) (os : PySem.OsState) : Option.map (fun s => (faL G Tb).all fun f => He.Fa.ok (KfO s) f) (EndO w os) = some true := by kernel_rfl
theorem run_d (w : World) (os : PySem.OsState) : Option.map (fun s => (fnL G ST).all fun d => He.DefD.ok (KfO s) d) (EndO w os) = some true := by kernel_rfl
theorem run_v (w : World) (os : PySem.OsState) : Option.map (fun s => (fnL G ST).map fun d => He.fnW (KfO s) d.at_) (EndO w os) = some ((fnL G ST).map He.DefD.val) := by kernel_rfl
theorem run_x (w : World) (os : PySem.OsState) : Option.map (fun s => exB Tb G (KfO s)) (EndO w os) = some true := by kernel_rfl
theorem top_run (w : World) : HandSHeadRun.RunEq RowO (PySem.W.view RowO.prog [37]) Hk Ob 30000 loose w := fun os => run_parts (O := Ob) (v := He.valD (fnL G ST)) (run_a w os) (run_f w os) (run_d w os) (run_v w os) (run_x w os) fun s h1 h2 h3 h4 => ob_join (n := 4) (ex := exB Tb G) h1 h2 h3 h4
end T
namespace T
open PySem PySem.W PySem.Calls PyProof.Rows
theorem fin_e : opening RowO.prog = plainProg RowO.prog.main.scope.names := by kernel_rfl
theorem fin_f (s : PySem.Shared) : fenceModules? RowO.prog s = some s := by kernel_rfl
theorem fin_d : defOf (view RowO.prog [37]) RowO.name = some ((HandSHeadRun.topDef RowO.prog 37), []) := by kernel_rfl
theorem fin_p : RowO.prog.theDef RowO.name = some ((HandSHeadRun.topDef RowO.prog 37).params, (HandSHeadRun.topDef RowO.prog 37).body, (HandSHeadRun.topDef RowO.prog 37).scope) := by kernel_rfl
theorem fin_k : kwWritten? (HandSHeadRun.topDef RowO.prog 37).params.kwonlyargs (HandSHeadRun.topDef RowO.prog 37).params.kw_defaults = some [] := by kernel_rfl
theorem fin_ok : (chainsOk (view RowO.prog [37]) && opensWell RowO.prog && (frees RowO.toRowW && RowO.within.isEmpty)) = true := by decide +kernel
theorem fin_b : RowO.prog.bare := ⟨rfl, rfl, rfl, rfl, rfl, by decide +kernel⟩
end T
set_option Elab.async false
set_option linter.all false
set_option maxRecDepth 100000
set_option maxHeartbeats 4000000
/-! TLm: a text that is it does it. -/
namespace T
open PySem PySem.Spec L2
open PyProof.Rows hiding St
/-- what isinstance needs of the errors' classes -/
structure ExF (K : PySem.W.Frag) (ad : Ad) (T : Tab) : Prop where
  c : ∀ d, T.excs.any (fun p => p.1 == d) = true → ExcC K (ad.ea d)
  n : ∀ d, isCl T d = true → PySem.W.kitOne K (.type "NoneType") (uC ad d) = some false
  e : ∀ c, T.excs.any (fun p => p.1 == c) = true → ∀ d, isCl T d = true → PySem.W.kitOne K (.ref (ad.ea c)) (uC ad d) = some (subX c d)
theorem ExF.k {K : PySem.W.Frag} {ad : Ad} {T : Tab} (x : ExF K ad T) {al cs : List Nat} (h1 : al.all (fun c => T.excs.any (fun p => p.1 == c)) = true) (h2 : cs.all (isCl T) = true) : KFacts K ad al cs := by
  have a1 := List.all_eq_true.mp h1
  have a2 := List.all_eq_true.mp h2
  exact ⟨fun c hc => x.c c (a1 c (by simpa using hc)), fun d hd => x.n d (a2 d hd), fun c hc d hd => x.e c (a1 c (by simpa using hc)) d (a2 d hd)⟩
/-- where an expression stands: what a handler may use -/
structure Gw (X : Cx) (T : Tab) (N : List Str) (ad : Ad) : Prop where
  un : X.A.units + 100 < cLine
  hN : X.N = N
  nd : X.N.Nodup
  free : ∀ x ∈ T.free, X.mg x = none
  mgx : ∀ p ∈ T.excs, X.mg p.2 = some (.ref (ad.ea p.1))
  cae : ∀ c, ad.ca (1000 + c) = ad.ea c
  exf : ExF X.K ad T
/-- where an expression stands -/
structure Gd (X : Cx) (T : Tab) (N : List Str) (ad : Ad) (k : Nat) (W : WX) (F : Fn) : Prop where
  calm : X.calm = true
  room : Room (k + 1) X.A
  hN : X.N = N
  nd : X.N.Nodup
  free : ∀ x ∈ T.free, X.mg x = none
  cons : ∀ p ∈ T.cons, ∃ u, X.mg p.1 = some u ∧ RelV p.2.v u
  defs : ∀ (j : Nat) (nm : Str) (np : Nat), T.defs.lookup j = some (nm, np) → nm ≠ ("" : Str) → FunAt X ad k nm np (F j)
  tk : Takes X W
  exc : ∀ p ∈ T.excs, X.mg p.2 = some (.ref (ad.ea p.1)) ∧ PySem.W.excIn X.K (ad.ea p.1) [.type "ValueError", .type "Exception", .type "BaseException", .type "object"] "ValueError.__new__" = true ∧ PySem.W.keepIn X.K (.ref (ad.ea p.1)) = true ∧
    PySem.W.subIn X.K (.ref (ad.ea p.1)) (.type "BaseException") = some true ∧ PySem.W.typeIn X.K (.ref (ad.ea p.1)) = some (.type "type")
  exm : ∀ p ∈ T.exms, PySem.W.exmOne X.K (.ref (ad.ea p.1)) (.ref (ad.ea p.2)) = some (subX p.1 p.2)
  cae : ∀ c, ad.ca (1000 + c) = ad.ea c
  exf : ExF X.K ad T
  noat : ∀ p ∈ T.noat, Cls X.K (ad.ca p.1) ∧ NoAttr X.K (ad.ca p.1) p.2
  mths : ∀ (c : Nat) (m : Str) (j np : Nat), (c, m, j, np) ∈ T.meths → MethAt X ad k c m np (F j)
  news : ∀ (c : Nat) (x : Str) (j np : Nat), (c, x) ∈ T.clss → (c, ("__init__" : Str), j, np) ∈ T.meths → NewAt X ad k c x np (F j)
  inis : ∀ (c : Nat) (x : Str) (j np : Nat), (c, x, j, np) ∈ T.inis → IniAt X ad k c x np (F j)
section
variable {X : Cx} {T : Tab} {N : List Str} {ad : Ad} {k : Nat} {W : WX} {F : Fn}
theorem vis_of {sc : Scope} {x : Str} (h : visB sc x = true) : Vis sc x := by
  unfold visB at h
  split at h <;> first | exact .inl (by assumption) | exact .inr (.inl (by assumption)) | exact .inr (.inr (by assumption)) | cases h
theorem dbg_of {x : Str} (h : dbg x = true) : (x == ("__debug__" : Str)) = false := by
  unfold dbg at h
  rw [Bool.and_eq_true] at h
  simpa using h.1
theorem some_of {x : Str} (h : dbg x = true) : x ≠ ("" : Str) := by
  unfold dbg at h
  rw [Bool.and_eq_true] at h
  simpa using h.2
theorem dcl_of {x : Str} (h : dcl x = true) : (x == ("__classdict__" : Str)) = false := by
  unfold dcl at h
  simpa using h
theorem gl_of {x : Str} (h : glB X.env.scope x = true) : Gl X x := by
  unfold glB at h
  exact eq_of_beq h
theorem loc_of {sc : Scope} {fnb : Str → Bool} {x : Str} (h : locB sc fnb x = true) : Loc sc x ∧ (fnb x = true ∨ sc.names.lookup x = some .local) := by
  unfold locB at h
  simp only [Bool.or_eq_true, Bool.and_eq_true, beq_iff_eq] at h
  rcases h with h | ⟨h1, h2⟩
  · exact ⟨.inl h, .inr h⟩
  · exact ⟨.inr h1, .inl h2⟩
theorem chkGs_len {N : List Str} {sc : Scope} {fnb : Str → Bool} : ∀ (ts : Tgs) (es : List Expr), chkGs N sc fnb ts es = true → es.length = ts.len
  | .nil, [], _ => rfl
  | .nil, _ :: _, h => by cases h
  | .cons _ _, [], h => by cases h
  | .cons t r, e :: es, h => by
    simp only [chkGs, Bool.and_eq_true] at h
    rw [List.length_cons, chkGs_len r es h.2]; rfl
mutual
theorem sndG {fnb : Str → Bool} (hc : X.calm = true) (hN : X.N = N) (nd : X.N.Nodup) (hf : ∀ x, fnb x = true → X.fn x = true) : ∀ (t : Tg) (x : Expr), chkG N X.env.scope fnb t x = true → PG X x (LG X.K ad t.slots (denG t))
  | .nm i, x, h => by
    cases x with
    | Name y pos =>
      simp only [chkG, Bool.and_eq_true, beq_iff_eq] at h
      obtain ⟨h1, h2⟩ := loc_of h.2
      refine lg_nm nd (by rw [hN]; exact h.1) h1 ?_
      rcases h2 with h2 | h2
      · exact .inl (hf _ h2)
      · exact .inr h2
    | _ => simp [chkG] at h
  | .tp ts, x, h => by
    cases x with
    | Tuple es kk pos =>
      simp only [chkG, Bool.and_eq_true] at h
      have q := lg_tp (pos := pos) (k := kk) hc (sndGs hc hN nd hf ts es h.2) h.1
      rw [chkGs_len ts es h.2] at q
      exact q
    | _ => simp [chkG] at h
theorem sndGs {fnb : Str → Bool} (hc : X.calm = true) (hN : X.N = N) (nd : X.N.Nodup) (hf : ∀ x, fnb x = true → X.fn x = true) : ∀ (ts : Tgs) (es : List Expr), chkGs N X.env.scope fnb ts es = true → PGs X es (LGs X.K ad ts.slots (denGs ts))
  | .nil, [], _ => lgs_nil
  | .nil, _ :: _, h => by cases h
  | .cons _ _, [], h => by cases h
  | .cons t r, e :: es, h => by
    simp only [chkGs, Bool.and_eq_true] at h
    exact lgs_cons (sndG hc hN nd hf t e h.1.1) (sndGs hc hN nd hf r es h.2) h.1.2
end
theorem o_neg : UnR X (unaryOp .USub) (L1R X.K ad neg1) := by
  intro pins st σ H x v Q I rx ⟨m, s, d, hr, r1, h⟩
  cases r1 with
  | int i => exact un_neg pins st σ H _ v Q I rx ⟨i, rfl, h m H _ .refl hr (.int _)⟩
  | tup _ _ => exact h.elim
  | rol _ _ => exact h.elim
  | ref _ => exact h.elim
  | _ => exact h.elim
theorem le_dk {pos : Pos} : PE X (.Dict [] [] pos) (LE X.K ad W fun _ s => .ok (.ref s.length) (s ++ [.dic []])) := pe_dnewK.imp fun σ H Q ⟨m, s, env, hr, er, h⟩ => fun p hp => by
  obtain ⟨h1, x⟩ := hr.new (u := .dK []) (o := .dic []) hp ⟨[], upd_same, .nil⟩
  refine h _ _ _ x h1 (.ref ?_)
  rw [← hr.len, List.getElem?_append_right (Nat.le_refl _)]
  simp
theorem le_dt {pos : Pos} : PE X (.Dict [] [] pos) (LE X.K ad W fun _ s => .ok (.ref s.length) (s ++ [.dit []])) := pe_dnewT.imp fun σ H Q ⟨m, s, env, hr, er, h⟩ => fun p hp => by
  obtain ⟨h1, x⟩ := hr.new (u := .dT []) (o := .dit []) hp ⟨[], upd_same, .nil⟩
  refine h _ _ _ x h1 (.ref ?_)
  rw [← hr.len, List.getElem?_append_right (Nat.le_refl _)]
  simp
theorem lts_nil : PTs X [] (LT X.K ad W fun _ s => .ok true s) := ⟨fun pins st σ H Q I h => by
  obtain ⟨m, s, env, hr, er, h⟩ := h
  exact pts_nil.run pins st σ H Q I (h m H true .refl hr rfl)⟩
theorem units (g : Gd X T N ad k W F) : X.A.units + 100 < cLine := by have := g.room.un; omega
theorem chkA_len : ∀ (es : Es) (xs : List Expr) (sc : Scope), chkA T N sc es xs = true → xs.length = es.len
  | .nil, [], _, _ => rfl
  | .nil, _ :: _, _, h => by cases h
  | .cons _ _, [], _, h => by cases h
  | .cons e r, x :: xs, sc, h => by
    simp only [chkA, Bool.and_eq_true] at h
    rw [List.length_cons, chkA_len r xs sc h.2]; rfl
/-- the place within a comprehension -/
theorem Gd.blk (g : Gd X T N ad k W F) (s : Shared) (H : Hp) (scope : Scope) (C : Addr) (cl : List (Str × Addr)) (fp : List Addr) : Gd (X.blk s H scope (compEnvC scope cl C X.env) fp) T N ad k W0 F :=
  ⟨g.calm, g.room, g.hN, g.nd, g.free, g.cons, fun j nm np h hn => ⟨(g.defs j nm np h hn).ex⟩, takes0, g.exc, g.exm, g.cae, g.exf, g.noat, fun c m j np h => ⟨(g.mths c m j np h).ex⟩, fun c x j np h1 h2 => ⟨(g.news c x j np h1 h2).ex⟩, fun c x j np h => ⟨(g.inis c x j np h).ex⟩⟩
theorem lk_mem {β : Type} {c : Nat} {j : β} : ∀ {l : List (Nat × β)}, l.lookup c = some j → (c, j) ∈ l
  | [], h => by cases h
  | (i, u) :: r, h => by
    rw [List.lookup_cons] at h
    split at h
    · rename_i hb
      rw [beq_iff_eq] at hb
      cases h
      subst hb
      exact List.mem_cons_self
    · exact List.mem_cons_of_mem _ (lk_mem h)
theorem free_of (g : Gd X T N ad k W F) {x : Str} (h : T.free.contains x = true) : X.mg x = none := g.free x (by simpa using h)
theorem Gd.w (g : Gd X T N ad k W F) : Gw X T N ad := ⟨units g, g.hN, g.nd, g.free, fun p hp => (g.exc p hp).1, g.cae, g.exf⟩
theorem Gd.clf (g : Gd X T N ad k W F) {f : Str} {cs : List Nat} (h : (cs.all fun c => T.noat.contains (c, f)) = true) : ClF X.K ad f cs := fun c hc => by
  have := List.all_eq_true.mp h c (by simpa using hc)
  exact g.noat (c, f) (by simpa using this)
theorem chkN_pe {d : Nat} {y : Expr} (g : Gw X T N ad) (h : chkN T X.env.scope d y = true) : PE X y (tC (vC ad d)) := by
  unfold chkN at h
  split at h
  · rename_i z pos
    unfold vC
    split at h
    · rename_i hd
      rw [if_pos (by simpa using hd)]
      simp only [Bool.and_eq_true, beq_iff_eq] at h
      obtain ⟨⟨rfl, h2⟩, h3⟩ := h
      exact pe_bltn (v := .ty "ValueError") (gl_of h2) (g.free _ (by simpa using h3)) (by decide +kernel) rfl
    · rename_i hd
      rw [if_neg (by simpa using hd)]
      simp only [Bool.and_eq_true] at h
      obtain ⟨⟨h1, h2⟩, h3⟩ := h
      exact pe_glob (v := .ref (ad.ea d)) (gl_of h2) (g.mgx (d, z) (by simpa using h1)) rfl (dbg_of h3)
  · cases h
theorem chkNs_pa (g : Gw X T N ad) : ∀ (ds : List Nat) (es : List Expr), chkNs T X.env.scope ds es = true → PA X es fun _ H Q => Q (ds.map (vC ad)) H
  | [], [], _ => pa_nil
  | [], _ :: _, h => by cases h
  | _ :: _, [], h => by cases h
  | d :: ds, e :: es, h => by
    simp only [chkNs, Bool.and_eq_true] at h
    obtain ⟨⟨h1, h2⟩, h3⟩ := h
    exact (pa_cons (chkN_pe g h1) (chkNs_pa g ds es h3) (star_cons h2)).imp fun σ H Q q => q
theorem isx_snd {al cs : List Nat} {x y : Expr} {p pos : Pos} {fa : Env → S → R D} (g : Gw X T N ad) (hg : glB X.env.scope "isinstance" = true) (hf : T.free.contains ("isinstance" : Str) = true) (hs : noStar x = true) (hx : chkX T X.env.scope cs y = true)
    (h1 : al.all (fun c => T.excs.any (fun p => p.1 == c)) = true) (h2 : cs.all (isCl T) = true) (ha : PE X x (LE X.K ad W fa)) : PE X (.Call (.Name "isinstance" p) [x, y] [] pos) (LE X.K ad W fun env s => (fa env s).bind fun x s1 => R.of (isx al cs x s1)) := by
  have k := g.exf.k h1 h2
  have hm : X.mg "isinstance" = none := g.free _ (by simpa using hf)
  unfold chkX at hx
  split at hx
  · simp only [Bool.and_eq_true, decide_eq_true_eq] at hx
    exact le_isxT g.cae k (gl_of hg) hm ha hs (chkNs_pa g cs _ hx.1) hx.2
  · split at hx
    · simp only [Bool.and_eq_true] at hx
      exact le_isx1 g.cae k (gl_of hg) hm ha hs (chkN_pe g hx.1) hx.2
    · cases hx
def isBo : Expr → Bool
  | .BoolOp _ _ _ => true
  | _ => false
mutual
theorem sndE : ∀ (e : E) (X : Cx) (W : WX) (g : Gd X T N ad k W F) (x : Expr), chkE T N X.env.scope e x = true → PE X x (LE X.K ad W (denE F e))
  | .bad, X, W, g, x, h => le_no
  | .var i, X, W, g, x, h => by
    unfold chkE at h
    split at h <;> first | contradiction | skip
    rename_i heq; cases heq
    simp only [Bool.and_eq_true, beq_iff_eq] at h
    exact le_var (by rw [g.hN]; exact h.1.1.1) (vis_of h.1.1.2) (dbg_of h.1.2) (dcl_of h.2)
  | .non, X, W, g, x, h => by
    cases x with
    | Constant c j pos => cases c <;> first | exact le_c pe_non fun m H => .non | (simp [chkE] at h)
    | _ => simp [chkE] at h
  | .bl b, X, W, g, x, h => by
    cases x with
    | Constant c j pos =>
      cases c with
      | bool c => simp only [chkE, beq_iff_eq] at h; subst h; exact le_c pe_bl fun m H => .bl _
      | _ => simp [chkE] at h
    | _ => simp [chkE] at h
  | .int b, X, W, g, x, h => by
    cases x with
    | Constant c j pos =>
      cases c with
      | int c => simp only [chkE, beq_iff_eq] at h; subst h; exact le_c pe_int fun m H => .int _
      | _ => simp [chkE] at h
    | _ => simp [chkE] at h
  | .str b, X, W, g, x, h => by
    cases x with
    | Constant c j pos =>
      cases c with
      | str c => simp only [chkE, beq_iff_eq] at h; subst h; exact le_c pe_str fun m H => .str _
      | _ => simp [chkE] at h
    | _ => simp [chkE] at h
  | .con y c, X, W, g, x, h => by
    cases x with
    | Name z pos =>
      simp only [chkE, Bool.and_eq_true, beq_iff_eq] at h
      obtain ⟨⟨⟨h1, h2⟩, h3⟩, h4⟩ := h
      subst h1
      obtain ⟨u, e1, e2⟩ := g.cons (y, c) (by simpa using h4)
      refine le_c (pe_glob (gl_of h2) e1 e2 (dbg_of h3)) fun m H => ?_
      cases c with
      | int i => exact .int i
      | str i => exact .str i
    | _ => simp [chkE] at h
  | .neg a, X, W, g, x, h => by
    cases x with
    | UnaryOp op y pos =>
      cases op with
      | USub => exact le_un (pe_un o_neg (sndE a X W g y (by simpa [chkE] using h)))
      | _ => simp [chkE] at h
    | _ => simp [chkE] at h
  | .bin o a b, X, W, g, x, h => by
    cases x with
    | BinOp y op z pos =>
      simp only [chkE, Bool.and_eq_true, beq_iff_eq] at h
      obtain ⟨⟨h1, h2⟩, h3⟩ := h
      subst h1
      exact le_op2 (pe_op (o_bop o) (sndE a X W g y h2) (sndE b X W g z h3))
    | _ => simp [chkE] at h
  | .cmp o a b, X, W, g, x, h => by
    unfold chkE at h
    split at h <;> first | contradiction | skip
    rename_i heq; cases heq
    simp only [Bool.and_eq_true, beq_iff_eq] at h
    obtain ⟨⟨⟨h1, h2⟩, h3⟩, h4⟩ := h
    subst h1
    exact le_op2 (pe_cmpR (o_cop (units g) o) (sndE a X W g _ h2) (sndE b X W g _ h3) (behind h4))
  | .and a b, X, W, g, x, h => by
    unfold chkE at h
    split at h <;> first | contradiction | skip
    rename_i heq; cases heq
    simp only [Bool.and_eq_true] at h
    exact le_and (sndE a X W g _ h.1) (sndE b X W g _ h.2)
  | .or a b, X, W, g, x, h => by
    unfold chkE at h
    split at h <;> first | contradiction | skip
    rename_i heq; cases heq
    simp only [Bool.and_eq_true] at h
    exact le_or (sndE a X W g _ h.1) (sndE b X W g _ h.2)
  | .one a, X, W, g, x, h => by
    unfold chkE at h
    split at h <;> first | contradiction | skip
    rename_i heq; cases heq
    exact le_one (sndE a X W g _ h)
  | .not a, X, W, g, x, h => by
    cases x with
    | UnaryOp op y pos =>
      cases op with
      | Not => exact le_not (sndE a X W g y (by simpa [chkE] using h))
      | _ => simp [chkE] at h
    | _ => simp [chkE] at h
  | .ite c a b, X, W, g, x, h => by
    cases x with
    | IfExp z y w pos =>
      simp only [chkE, Bool.and_eq_true] at h
      exact le_ite (sndT c X W g z h.1.1) (sndE a X W g y h.1.2) (sndE b X W g w h.2)
    | _ => simp [chkE] at h
  | .tup es, X, W, g, x, h => by
    cases x with
    | Tuple xs kk pos => simp only [chkE, Bool.and_eq_true] at h; exact le_tup (sndA es X W g xs h.1 h.2)
    | _ => simp [chkE] at h
  | .lst es, X, W, g, x, h => by
    cases x with
    | List xs pos => simp only [chkE, Bool.and_eq_true] at h; exact le_lst (sndA es X W g xs h.1 h.2)
    | _ => simp [chkE] at h
  | .dk, X, W, g, x, h => by
    unfold chkE at h
    split at h <;> first | contradiction | skip
    exact le_dk
  | .dt, X, W, g, x, h => by
    unfold chkE at h
    split at h <;> first | contradiction | skip
    exact le_dt
  | .idx a i, X, W, g, x, h => by
    unfold chkE at h
    split at h <;> first | contradiction | skip
    rename_i heq; cases heq
    simp only [Bool.and_eq_true] at h
    exact le_op2 (pe_ix (i_idx (units g)) (sndE a X W g _ h.1.1) (sndE i X W g _ h.1.2) (plainIx h.2))
  | .slc a lo hi, X, W, g, x, h => by
    unfold chkE at h
    split at h <;> first | contradiction | skip
    rename_i heq; cases heq
    simp only [Bool.and_eq_true] at h
    exact le_slc (sndE a X W g _ h.1.1) (sndO lo X W g _ h.1.2) (sndO hi X W g _ h.2)
  | .rev a, X, W, g, x, h => by
    unfold chkE at h
    split at h <;> first | contradiction | skip
    rename_i heq; cases heq
    simp only [Bool.and_eq_true, beq_iff_eq] at h
    obtain ⟨h1, h2⟩ := h
    subst h1
    exact le_rev (sndE a X W g _ h2)
  | .call j es, X, W, g, x, h => by
    unfold chkE at h
    split at h <;> first | contradiction | skip
    rename_i heq; cases heq
    rename_i y p xs pos
    simp only [Bool.and_eq_true, beq_iff_eq] at h
    obtain ⟨⟨⟨⟨h1, h2⟩, h3⟩, h4⟩, h5⟩ := h
    cases xs with
    | nil =>
      cases es with
      | nil => exact le_call0 (g.defs j _ _ h1 (some_of h3)) (g.room.mono (Nat.le_succ k)) (gl_of h2) g.tk (dbg_of h3)
      | cons _ _ => cases h4
    | cons y ys => exact le_call (g.defs j _ _ h1 (some_of h3)) (g.room.mono (Nat.le_succ k)) (gl_of h2) g.tk (sndA es X W g _ h4 h5) (chkA_len _ _ _ h4) h5 (dbg_of h3) (denA_len es)
  | .blt b es, X, W, g, x, h => by
    unfold chkE at h
    split at h <;> first | contradiction | skip
    rename_i heq; cases heq
    rename_i y p xs pos
    simp only [Bool.and_eq_true, beq_iff_eq] at h
    obtain ⟨⟨⟨⟨⟨h1, h2⟩, h3⟩, h4⟩, h5⟩, h6⟩ := h
    subst h1
    cases xs with
    | nil => cases h6
    | cons y ys => exact le_blt b g.calm (gl_of h2) (free_of g h3) (sndA es X W g _ h4 h5) h5
  | .isi t a, X, W, g, x, h => by
    unfold chkE at h
    split at h <;> first | contradiction | skip
    rename_i heq; cases heq
    simp only [Bool.and_eq_true, beq_iff_eq] at h
    obtain ⟨⟨⟨⟨⟨⟨⟨⟨h1, h2⟩, h3⟩, h4⟩, h5⟩, h6⟩, h7⟩, h8⟩, h9⟩ := h
    subst h1 h2
    exact le_isi t h7 (gl_of h3) (free_of g h5) (gl_of h4) (free_of g h6) (sndE a X W g _ h9) h8
  | .mth m o es, X, W, g, x, h => by
    unfold chkE at h
    split at h <;> first | contradiction | skip
    rename_i heq; cases heq
    rename_i y f ap xs pos
    simp only [Bool.and_eq_true, beq_iff_eq, decide_eq_true_eq] at h
    obtain ⟨⟨⟨⟨⟨⟨⟨h1, h2⟩, h3⟩, h4⟩, h5⟩, h6⟩, h7⟩, h8⟩ := h
    subst h1
    cases xs with
    | nil =>
      cases es with
      | nil =>
        have q := le_mth0 (pos := pos) (apos := ap) m (by rw [h8]; rfl) (sndE o X W g _ h4) h2 (by rw [h3]; exact beq_self_eq_true _)
        exact q
      | cons _ _ => cases h5
    | cons y ys => exact le_mth (units g) m (by rw [h8]; rfl) (sndE o X W g _ h4) (sndA es X W g _ h5 h6) h6 h7 h2 (by rw [h3]; exact beq_self_eq_true _)
  | .lc own tg w c a, X, W, g, x, h => by
    unfold chkE at h
    split at h <;> first | contradiction | skip
    rename_i heq; cases heq
    rename_i y t i fs scope pos
    simp only [Bool.and_eq_true] at h
    obtain ⟨⟨⟨⟨⟨⟨h1, h2⟩, h3⟩, h4⟩, h5⟩, h6⟩, h7⟩ := h
    refine (pe_lc (own := own) g.calm g.nd (sndW w X W g t i h1) (blkOk_by (by rw [g.hN]; exact h2)) (fun s H C cl fp => sndG (X := X.blk s H scope (compEnvC scope cl C X.env) fp) g.calm g.hN g.nd (fnb := fun x => scope.names.lookup x == some .cell) (fun x hx => hx) tg t h3)
      (fun s H C cl fp => sndC c _ W0 (g.blk s H scope C cl fp) fs h4) (fun s H C cl fp => sndE a _ W0 (g.blk s H scope C cl fp) y h5) (folded h6)).imp fun σ H Q hh => lc_reads (fun i hi => ?_) hh
    have := List.all_eq_true.mp h7 i hi
    simpa using this
  | .lrg1 a, X, W, g, x, h => by
    unfold chkE at h
    split at h <;> first | contradiction | skip
    rename_i heq; cases heq
    simp only [Bool.and_eq_true, beq_iff_eq] at h
    obtain ⟨⟨⟨⟨⟨⟨⟨h1, h2⟩, h3⟩, h4⟩, h5⟩, h6⟩, h7⟩, h8⟩ := h
    subst h1 h2
    exact le_lrg1 g.calm (gl_of h3) (free_of g h5) (gl_of h4) (free_of g h6) (sndE a X W g _ h7) h8
  | .nset a, X, W, g, x, h => by
    unfold chkE at h
    split at h <;> first | contradiction | skip
    rename_i heq; cases heq
    simp only [Bool.and_eq_true, beq_iff_eq] at h
    obtain ⟨⟨⟨⟨⟨⟨⟨h1, h2⟩, h3⟩, h4⟩, h5⟩, h6⟩, h7⟩, h8⟩ := h
    subst h1 h2
    exact le_nset g.calm (units g) (gl_of h3) (free_of g h5) (gl_of h4) (free_of g h6) (sndE a X W g _ h7) h8
  | .lrg2 a b, X, W, g, x, h => by
    unfold chkE at h
    split at h <;> first | contradiction | skip
    rename_i heq; cases heq
    simp only [Bool.and_eq_true, beq_iff_eq] at h
    obtain ⟨⟨⟨⟨⟨⟨⟨⟨⟨h1, h2⟩, h3⟩, h4⟩, h5⟩, h6⟩, h7⟩, h8⟩, h9⟩, h10⟩ := h
    subst h1 h2
    exact le_lrg2 g.calm (gl_of h3) (free_of g h5) (gl_of h4) (free_of g h6) (sndE a X W g _ h7) (sndE b X W g _ h8) h9 h10
  | .lzip es, X, W, g, x, h => by
    unfold chkE at h
    split at h <;> first | contradiction | skip
    rename_i heq; cases heq
    simp only [Bool.and_eq_true, beq_iff_eq] at h
    obtain ⟨⟨⟨⟨⟨⟨⟨h1, h2⟩, h3⟩, h4⟩, h5⟩, h6⟩, h7⟩, h8⟩ := h
    subst h1 h2
    exact le_lzip g.calm (gl_of h3) (free_of g h5) (gl_of h4) (free_of g h6) (sndA es X W g _ h7 h8) h8
  | .isx al cs a, X, W, g, x, h => by
    unfold chkE at h
    split at h <;> first | contradiction | skip
    rename_i heq; cases heq
    simp only [Bool.and_eq_true, beq_iff_eq] at h
    obtain ⟨⟨⟨⟨⟨⟨⟨h1, h2⟩, h3⟩, h4⟩, h5⟩, h6⟩, h7⟩, h8⟩ := h
    subst h1
    exact isx_snd g.w h2 h3 h4 h5 h6 h7 (sndE a X W g _ h8)
  | .attr o f cs, X, W, g, x, h => by
    unfold chkE at h
    split at h <;> first | contradiction | skip
    rename_i heq; cases heq
    simp only [Bool.and_eq_true, beq_iff_eq] at h
    obtain ⟨⟨⟨h1, h2⟩, h3⟩, h4⟩ := h
    subst h1
    exact le_attr (g.clf h3) (sndE o X W g _ h4) h2
  | .mcall m tb o es, X, W, g, x, h => by
    unfold chkE at h
    split at h <;> first | contradiction | skip
    rename_i heq; cases heq
    rename_i y f ap xs pos
    simp only [Bool.and_eq_true, beq_iff_eq, decide_eq_true_eq] at h
    obtain ⟨⟨⟨⟨⟨⟨⟨h1, h2⟩, h3⟩, h4⟩, h5⟩, h6⟩, h7⟩, h8⟩ := h
    subst h1
    have hM : ∀ c j, tb.lookup c = some j → MethAt X ad k c m (es.len + 1) (F j) := fun c j hl => by
      have := List.all_eq_true.mp h8 (c, j) (lk_mem hl)
      exact g.mths c m j _ (by simpa using this)
    cases xs with
    | nil =>
      cases es with
      | nil => exact le_mcall0 hM (g.room.mono (Nat.le_succ k)) g.tk (sndE o X W g _ h4) h2 (by rw [h3]; exact beq_self_eq_true _)
      | cons _ _ => cases h5
    | cons y ys => exact le_mcall hM (g.room.mono (Nat.le_succ k)) g.tk (sndE o X W g _ h4) (sndA es X W g _ h5 h6) (by rw [chkA_len _ _ _ h5]) h6 h7 h2 (by rw [h3]; exact beq_self_eq_true _) fun env s ds s' q => by rw [denA_len es _ _ _ _ q]
  | .new c j es, X, W, g, x, h => by
    unfold chkE at h
    split at h <;> first | contradiction | skip
    rename_i heq; cases heq
    rename_i y p xs pos
    simp only [Bool.and_eq_true] at h
    obtain ⟨⟨⟨⟨⟨h1, h2⟩, h3⟩, h4⟩, h5⟩, h6⟩ := h
    have hN := g.news c y j (es.len + 1) (by simpa using h1) (by simpa using h4)
    cases xs with
    | nil =>
      cases es with
      | nil => exact le_new0 hN g.room (gl_of h2) g.tk (dbg_of h3)
      | cons _ _ => cases h5
    | cons y ys => exact le_new hN g.room (gl_of h2) g.tk (sndA es X W g _ h5 h6) h6 (dbg_of h3) fun env s ds s' q => by rw [denA_len es _ _ _ _ q]
  | .ccall c j es, X, W, g, x, h => by
    unfold chkE at h
    split at h <;> first | contradiction | skip
    rename_i heq; cases heq
    simp only [Bool.and_eq_true, beq_iff_eq, decide_eq_true_eq, Bool.not_eq_true'] at h
    obtain ⟨⟨⟨⟨⟨⟨⟨⟨h1, h2⟩, h3⟩, h4⟩, h5⟩, h6⟩, h7⟩, h8⟩, h9⟩ := h
    subst h1
    rename_i xs _
    cases xs with
    | nil => cases h9
    | cons y ys => exact le_ccall (g.inis _ _ _ _ (by simpa using h2)) (g.room.mono (Nat.le_succ k)) (gl_of h3) g.tk (sndA es X W g _ h6 h7) (by rw [chkA_len _ _ _ h6]) h7 h8 (dbg_of h4) (by rw [h5]; exact beq_self_eq_true _) fun env s ds s' q => by rw [denA_len es _ _ _ _ q]
  | .dsp ks es, X, W, g, x, h => by
    unfold chkE at h
    split at h <;> first | contradiction | skip
    rename_i heq; cases heq
    simp only [Bool.and_eq_true, decide_eq_true_eq, Bool.not_eq_true'] at h
    obtain ⟨⟨⟨⟨⟨h1, h2⟩, h3⟩, h4⟩, h5⟩, h6⟩ := h
    refine le_dsp (sndD es X W g _ _ h6 ?_) h1 h2 (by rintro rfl; cases h4) h3 h5
    have := congrArg List.length h1
    simp only [List.length_map] at this
    omega
  | .tin neg es d, X, W, g, x, h => by
    unfold chkE at h
    split at h <;> first | contradiction | skip
    rename_i heq; cases heq
    simp only [Bool.and_eq_true, beq_iff_eq] at h
    obtain ⟨⟨⟨⟨h1, h2⟩, h3⟩, h4⟩, h5⟩ := h
    subst h1
    exact le_tin (units g) (sndA es X W g _ h2 h3) (sndE d X W g _ h4) (behind h5)
  | .tget d es, X, W, g, x, h => by
    unfold chkE at h
    split at h <;> first | contradiction | skip
    rename_i heq; cases heq
    simp only [Bool.and_eq_true] at h
    exact le_tget (units g) (sndE d X W g _ h.1.1) (sndA es X W g _ h.1.2 h.2)
  | .lk d e, X, W, g, x, h => by
    unfold chkE at h
    exact le_lk (sndE e X W g _ h)
theorem sndD : ∀ (es : Es) (X : Cx) (W : WX) (g : Gd X T N ad k W F) (ks : List Str) (xs : List Expr) {pos : Pos}, chkA T N X.env.scope es xs = true → ks.length = xs.length → PDs X ad W pos ks xs (denA F es)
  | .nil, X, W, g, [], [], _, h, _ => pds_nil
  | .nil, X, W, g, _, _ :: _, _, h, _ => by cases h
  | .nil, X, W, g, _ :: _, [], _, _, h => by cases h
  | .cons _ _, X, W, g, _, [], _, h, _ => by cases h
  | .cons _ _, X, W, g, [], _ :: _, _, _, h => by cases h
  | .cons e r, X, W, g, k :: ks, x :: xs, _, h, hl => by
    simp only [chkA, Bool.and_eq_true] at h
    exact pds_cons (sndE e X W g x h.1) (sndD r X W g ks xs h.2 (by simpa using hl))
theorem sndA : ∀ (es : Es) (X : Cx) (W : WX) (g : Gd X T N ad k W F) (xs : List Expr), chkA T N X.env.scope es xs = true → noStars xs = true → PA X xs (LA X.K ad W (denA F es))
  | .nil, X, W, g, [], h, _ => la_nil
  | .nil, X, W, g, _ :: _, h, _ => by cases h
  | .cons _ _, X, W, g, [], h, _ => by cases h
  | .cons e r, X, W, g, x :: xs, h, hs => by
    simp only [chkA, Bool.and_eq_true] at h
    unfold noStars at hs
    rw [List.all_cons, Bool.and_eq_true] at hs
    exact la_cons (sndE e X W g x h.1) (sndA r X W g xs h.2 hs.2) (star_cons hs.1)
theorem sndO : ∀ (e : Eo) (X : Cx) (W : WX) (g : Gd X T N ad k W F) (x : Option Expr), chkO T N X.env.scope e x = true → PO X x (LP X.K ad W (denO F e))
  | .none, X, W, g, none, h => lp_none
  | .none, X, W, g, some _, h => by cases h
  | .some _, X, W, g, none, h => by cases h
  | .some e, X, W, g, some x, h => lp_some (sndE e X W g x (by simpa [chkO] using h))
theorem sndT : ∀ (t : Te) (X : Cx) (W : WX) (g : Gd X T N ad k W F) (x : Expr), chkT T N X.env.scope t x = true → PT X x (LT X.K ad W (denT F t))
  | .cmp o a b, X, W, g, x, h => by
    unfold chkT at h
    split at h <;> first | contradiction | skip
    rename_i heq; cases heq
    simp only [Bool.and_eq_true, beq_iff_eq] at h
    obtain ⟨⟨⟨h1, h2⟩, h3⟩, h4⟩ := h
    subst h1
    exact lt_cmp (o_cop (units g) o) (sndE a X W g _ h2) (sndE b X W g _ h3) (behind h4)
  | .val a, X, W, g, x, h => by
    simp only [chkT, Bool.and_eq_true] at h
    exact lt_val (sndE a X W g x h.1) (plainTest h.2)
  | .not a, X, W, g, x, h => by
    cases x with
    | UnaryOp op y pos =>
      cases op with
      | Not => exact lt_not (sndT a X W g y (by simpa [chkT] using h))
      | _ => simp [chkT] at h
    | _ => simp [chkT] at h
  | .and a b, X, W, g, x, h => (sndP (.and a b) X W g x h rfl).pt
  | .or a b, X, W, g, x, h => (sndP (.or a b) X W g x h rfl).pt
  | .one a, X, W, g, x, h => (sndP (.one a) X W g x h rfl).pt
  | .chn o1 o2 a b c, X, W, g, x, h => by
    unfold chkT at h
    split at h <;> first | contradiction | skip
    rename_i heq; cases heq
    simp only [Bool.and_eq_true, beq_iff_eq] at h
    obtain ⟨⟨⟨⟨⟨h1, h2⟩, h3⟩, h4⟩, h5⟩, h6⟩ := h
    subst h1 h2
    exact lt_chn (o_cop (units g) o1) (o_cop (units g) o2) (sndE a X W g _ h3) (sndE b X W g _ h4) (sndE c X W g _ h5) (by unfold lastMarks; exact behind h6)
  | .tin neg es d, X, W, g, x, h => by
    unfold chkT at h
    split at h <;> first | contradiction | skip
    rename_i heq; cases heq
    simp only [Bool.and_eq_true, beq_iff_eq] at h
    obtain ⟨⟨⟨⟨h1, h2⟩, h3⟩, h4⟩, h5⟩ := h
    subst h1
    exact lt_tin (units g) (sndA es X W g _ h2 h3) (sndE d X W g _ h4) (behind h5)
theorem sndP : ∀ (t : Te) (X : Cx) (W : WX) (g : Gd X T N ad k W F) (x : Expr), chkT T N X.env.scope t x = true → (match t with | .and _ _ => true | .or _ _ => true | .one _ => true | _ => false) = true → PW X x (LT X.K ad W (denT F t))
  | .and a b, X, W, g, x, h, _ => by
    unfold chkT at h
    split at h <;> first | contradiction | skip
    rename_i heq; cases heq
    simp only [Bool.and_eq_true] at h
    exact lw_and (sndT a X W g _ h.1) (sndPw b X W g _ h.2 rfl)
  | .or a b, X, W, g, x, h, _ => by
    unfold chkT at h
    split at h <;> first | contradiction | skip
    rename_i heq; cases heq
    simp only [Bool.and_eq_true] at h
    exact lw_or (sndT a X W g _ h.1) (sndPw b X W g _ h.2 rfl)
  | .one a, X, W, g, x, h, _ => by
    unfold chkT at h
    split at h <;> first | contradiction | skip
    rename_i heq; cases heq
    exact lw_one (sndT a X W g _ h)
  | .cmp _ _ _, _, _, _, _, _, h => by cases h
  | .val _, _, _, _, _, _, h => by cases h
  | .not _, _, _, _, _, _, h => by cases h
  | .chn _ _ _ _ _, _, _, _, _, _, h => by cases h
  | .tin _ _ _, _, _, _, _, _, h => by cases h
theorem sndPw : ∀ (t : Te) (X : Cx) (W : WX) (g : Gd X T N ad k W F) (x : Expr), chkT T N X.env.scope t x = true → isBo x = true → PW X x (LT X.K ad W (denT F t))
  | .and a b, X, W, g, x, h, _ => sndP (.and a b) X W g x h rfl
  | .or a b, X, W, g, x, h, _ => sndP (.or a b) X W g x h rfl
  | .one a, X, W, g, x, h, _ => sndP (.one a) X W g x h rfl
  | .cmp o a b, X, W, g, x, h, hb => by
    cases x with
    | BoolOp _ _ _ => simp [chkT] at h
    | _ => cases hb
  | .val a, X, W, g, x, h, hb => by
    cases x with
    | BoolOp _ _ _ => simp [chkT, plainT] at h
    | _ => cases hb
  | .not a, X, W, g, x, h, hb => by
    cases x with
    | BoolOp _ _ _ => simp [chkT] at h
    | _ => cases hb
  | .chn o1 o2 a b c, X, W, g, x, h, hb => by
    cases x with
    | BoolOp _ _ _ => simp [chkT] at h
    | _ => cases hb
  | .tin neg es d, X, W, g, x, h, hb => by
    cases x with
    | BoolOp _ _ _ => simp [chkT] at h
    | _ => cases hb
theorem sndW : ∀ (w : Wa) (X : Cx) (W : WX) (g : Gd X T N ad k W F) (t x : Expr), chkW T N X.env.scope w t x = true → PI X t x (LI X.K ad W (denW F w))
  | .seq e, X, W, g, t, x, h => li_seq (sndE e X W g x (by simpa [chkW] using h))
  | .rng1 es, X, W, g, t, x, h => by
    unfold chkW at h
    split at h <;> first | contradiction | skip
    rename_i heq; cases heq
    simp only [Bool.and_eq_true, beq_iff_eq] at h
    obtain ⟨⟨⟨⟨h1, h2⟩, h3⟩, h4⟩, h5⟩ := h
    subst h1
    exact li_rng1 (gl_of h2) (free_of g h3) (sndA es X W g _ h4 (by simp [noStars, h5])) h5
  | .rng2 es, X, W, g, t, x, h => by
    unfold chkW at h
    split at h <;> first | contradiction | skip
    rename_i heq; cases heq
    simp only [Bool.and_eq_true, beq_iff_eq] at h
    obtain ⟨⟨⟨⟨⟨h1, h2⟩, h3⟩, h4⟩, h5⟩, h6⟩ := h
    subst h1
    exact li_rng2 (gl_of h2) (free_of g h3) (sndA es X W g _ h4 (by simp [noStars, h5, h6])) h5 h6
  | .rng3 es, X, W, g, t, x, h => by
    unfold chkW at h
    split at h <;> first | contradiction | skip
    rename_i heq; cases heq
    simp only [Bool.and_eq_true, beq_iff_eq] at h
    obtain ⟨⟨⟨⟨⟨h1, h2⟩, h3⟩, h4⟩, h5⟩, h6⟩ := h
    subst h1
    exact li_rng3 (gl_of h2) (free_of g h3) (sndA es X W g _ h4 (by unfold noStars at h6 ⊢; rw [List.all_cons, h5, h6]; rfl)) h5 h6
  | .enum es, X, W, g, t, x, h => by
    cases t with
    | Tuple elts kk tp =>
      unfold chkW at h
      split at h <;> first | contradiction | skip
      rename_i heq; cases heq
      simp only [Bool.and_eq_true, beq_iff_eq] at h
      obtain ⟨⟨⟨⟨⟨h1, h2⟩, h3⟩, h4⟩, h5⟩, h6⟩ := h
      subst h1
      exact li_enum (gl_of h2) (free_of g h3) (sndA es X W g _ h4 (by simp [noStars, h5])) h5
    | _ =>
      unfold chkW at h
      split at h <;> first | contradiction | (simp [isTup] at h)
  | .zip es, X, W, g, t, x, h => by
    cases t with
    | Tuple elts kk tp =>
      unfold chkW at h
      split at h <;> first | contradiction | skip
      rename_i heq; cases heq
      simp only [Bool.and_eq_true, beq_iff_eq] at h
      obtain ⟨⟨⟨⟨⟨h1, h2⟩, h3⟩, h4⟩, h5⟩, h6⟩ := h
      subst h1
      exact li_zip (gl_of h2) (free_of g h3) (sndA es X W g _ h4 h5) h5
    | _ =>
      unfold chkW at h
      split at h <;> first | contradiction | (simp [isTup] at h)
theorem sndC : ∀ (c : Co) (X : Cx) (W : WX) (g : Gd X T N ad k W F) (xs : List Expr), chkC T N X.env.scope c xs = true → PTs X xs (LT X.K ad W (denC F c))
  | .none, X, W, g, [], h => lts_nil
  | .none, X, W, g, _ :: _, h => by cases h
  | .some _, X, W, g, [], h => by cases h
  | .some c, X, W, g, [x], h => pts_one (sndT c X W g x (by simpa [chkC] using h))
  | .some _, X, W, g, _ :: _ :: _, h => by cases h
end
end
end T
set_option Elab.async false
set_option linter.all false
set_option maxRecDepth 100000
set_option maxHeartbeats 4000000
/-! TLn: statements that are it do it. -/
namespace T
open PySem PySem.Spec L2
open PyProof.Rows hiding St
structure GdS (X : Cx) (T : Tab) (N : List Str) (ad : Ad) (k : Nat) (W : WX) (F : Fn) : Prop where
  gd : Gd X T N ad k W F
  fn : ∀ x, X.fn x = true
  pass : PassesOwn (model X.prog X.w) X.A X.env X.xe
  kind : X.env.scope.kind = .function
  stk : X.stack = X.env :: X.outer
  frm : X.env.frame = some X.env.locals
theorem GdS.tr {X : Cx} {T : Tab} {N : List Str} {ad : Ad} {k : Nat} {W W' : WX} {F : Fn} (g : GdS X T N ad k W F) {pn : List (Addr × Obj)} {xe : Value → Shared → Prop} (tk : Takes (X.tr pn xe) W') (hp : PassesOwn (model X.prog X.w) X.A X.env xe) : GdS (X.tr pn xe) T N ad k W' F :=
  ⟨⟨g.gd.calm, g.gd.room, g.gd.hN, g.gd.nd, g.gd.free, g.gd.cons, fun j nm np h hn => ⟨(g.gd.defs j nm np h hn).ex⟩, tk, g.gd.exc, g.gd.exm, g.gd.cae, g.gd.exf, g.gd.noat, fun c m j np h => ⟨(g.gd.mths c m j np h).ex⟩, fun c x j np h1 h2 => ⟨(g.gd.news c x j np h1 h2).ex⟩, fun c x j np h => ⟨(g.gd.inis c x j np h).ex⟩⟩, g.fn, hp, g.kind, g.stk, g.frm⟩
section
variable {X : Cx} {T : Tab} {N : List Str} {ad : Ad} {k : Nat} {W : WX} {F : Fn}
theorem sw_cell {e : Expr} {x : Str} {pos : Pos} {l : Nat} {env : PySem.Env} (h : (noLc e || !(env.scope.names.lookup x == some .local)) = true) : swapsWith e (some (.Name x pos)) l env = pure false := by
  rw [Bool.or_eq_true] at h
  rcases h with h | h
  · exact swaps h
  · have hk : (env.kindOf x == some .local) = false := by
      have : env.kindOf x = env.scope.names.lookup x := rfl
      rw [this]
      simpa using h
    unfold swapsWith
    cases e <;> first | rfl | (simp only [hk, Bool.and_false, Bool.false_and]; try rfl)
theorem ls_setc {W : WX} {e : Expr} {pos pos' : Pos} {i : Nat} {x : Str} {fe : Env → S → R D} (hN : X.N.Nodup) (hi : X.N[i]? = some x) (hx : Loc X.env.scope x) (hf : X.fn x = true) (he : PE X e (LE X.K ad W fe)) (hs : swapsWith e (some (.Name x pos')) pos.line X.env = pure false) :
    PS X (.Assign [.Name x pos'] e pos) (LS X.K ad W fun env s => (fe env s).st env fun d s1 => .nx (env.set i (some d)) s1) :=
  (ps_set hN hi hx he hs (.inl hf)).imp fun D σ H ⟨m, s, env, hr, er, h⟩ => ⟨m, s, env, hr, er, h.ofE er fun d s1 m1 H1 v _ x1 hr1 rv er1 h1 => h1 m1 H1 _ .refl hr1 (er1.set rv)⟩
theorem noTup_sw {tg e : Expr} {env : PySem.Env} (h : noTupV e = true) : swappedStores [tg] e env = pure none := by
  unfold swappedStores
  cases e <;> first | (simp [noTupV] at h; done) | (cases tg <;> rfl)
theorem par_sw {env : PySem.Env} {x z : Str} {a b : Expr} {px pz pt : Pos} {kt k2 pt2} (hk : env.scope.kind = .function) (h1 : env.scope.names.lookup x = some .local) (h2 : env.scope.names.lookup z = some .local) (h3 : (z == x) = false) (h4 : pz.line = px.line)
    (h5 : ([a, b].any fun | .Starred .. => true | _ => false) = false) (h6 : ([a, b].all (foldedForSure 8)) = false) (h7 : ([a, b].all (constantsAlone 8)) = false) :
    swappedStores [.Tuple [.Name x px, .Name z pz] kt pt] (.Tuple [a, b] k2 pt2) env = pure (some [x, z]) := by
  have e1 : env.kindOf x = some .local := h1
  have e2 : env.kindOf z = some .local := h2
  have e3 : env.blockKind = .function := by unfold Env.blockKind; rw [hk]; rfl
  unfold swappedStores
  have h3' : ¬ z = x := by simpa using h3
  simp only [e1, e2, e3, h4, h5, h6, h7, List.filterMap_cons, List.filterMap_nil, List.head?_cons, Option.map_some, Option.getD_some, List.length_cons, List.length_nil]
  simp [Expr.pos, List.eraseDups, List.eraseDupsBy, List.eraseDupsBy.loop, h3, h3']
  simp only [List.any_cons, List.any_nil, Bool.or_false, Bool.or_eq_false_iff] at h5
  rintro (hh | hh)
  · have q := h5.1
    revert q hh
    cases a <;> simp
  · have q := h5.2
    revert q hh
    cases b <;> simp
theorem par_den {i j : Nat} : par2 i j = denG (.tp (.cons (.nm i) (.cons (.nm j) .nil))) := by
  funext d env
  unfold par2
  cases d with
  | tup ds =>
    match ds with
    | [] => rfl
    | [_] => rfl
    | [_, _] => rfl
    | _ :: _ :: _ :: _ => simp [denG, Tgs.len]
  | _ => rfl
theorem cel_sw {tg e : Expr} {env : PySem.Env} (h : celOk env.scope tg e = true) : swappedStores [tg] e env = pure none := by
  unfold celOk at h
  split at h <;> first | contradiction | skip
  rename_i x px z pz k p vs k2 p2
  rw [Bool.or_eq_true, Bool.not_eq_true', Bool.not_eq_true', beq_eq_false_iff_ne, beq_eq_false_iff_ne] at h
  have e1 : env.kindOf x = env.scope.names.lookup x := rfl
  have e2 : env.kindOf z = env.scope.names.lookup z := rfl
  have hn : ∀ l, ([Expr.Name x px, Expr.Name z pz].filterMap fun
    | .Name id pos => if env.kindOf id == some .local && pos.line == l then some id else none
    | _ => none).length ≠ 2 := fun l => by
    simp only [List.filterMap_cons, List.filterMap_nil, e1, e2]
    rcases h with h | h
    · rw [if_neg (by simp [h])]
      dsimp only
      split <;> simp
    · rw [if_neg (c := (List.lookup z env.scope.names == some NameKind.local && pz.line == l) = true) (by simp [h])]
      dsimp only
      split <;> simp
  unfold swappedStores
  dsimp only
  split
  · rfl
  · split
    · rfl
    · rw [if_pos]
      have := hn px.line
      rw [Bool.or_eq_true]
      left
      exact bne_iff_ne.mpr this
theorem sole_sw {tg e : Expr} {l : Nat} {env : PySem.Env} (h : noLc e = true) : swapsWithSole [tg] e l env = pure false := by
  unfold swapsWithSole
  exact swaps h
theorem Gw.suite {X : Cx} {T : Tab} {N : List Str} {ad : Ad} (g : Gw X T N ad) (a : Addr) (pn : List (Addr × Obj)) : Gw (X.suite a pn) T N ad :=
  ⟨g.un, g.hN, g.nd, g.free, g.mgx, g.cae, g.exf⟩
mutual
/-- what a handler says -/
theorem sndK : ∀ (e : E) (X : Cx) (W : WX) (T : Tab) (N : List Str) (ad : Ad) (F : Fn) (g : Gw X T N ad) (x : Expr), chkK T N X.env.scope e x = true → PE X x (LE X.K ad W (denE F e))
  | .non, X, W, T, N, ad, F, g, x, h => by
    cases x with
    | Constant c j pos => cases c <;> first | exact le_c pe_non fun m H => .non | (simp [chkK] at h)
    | _ => simp [chkK] at h
  | .bl b, X, W, T, N, ad, F, g, x, h => by
    cases x with
    | Constant c j pos =>
      cases c with
      | bool c => simp only [chkK, beq_iff_eq] at h; subst h; exact le_c pe_bl fun m H => .bl _
      | _ => simp [chkK] at h
    | _ => simp [chkK] at h
  | .int b, X, W, T, N, ad, F, g, x, h => by
    cases x with
    | Constant c j pos =>
      cases c with
      | int c => simp only [chkK, beq_iff_eq] at h; subst h; exact le_c pe_int fun m H => .int _
      | _ => simp [chkK] at h
    | _ => simp [chkK] at h
  | .str b, X, W, T, N, ad, F, g, x, h => by
    cases x with
    | Constant c j pos =>
      cases c with
      | str c => simp only [chkK, beq_iff_eq] at h; subst h; exact le_c pe_str fun m H => .str _
      | _ => simp [chkK] at h
    | _ => simp [chkK] at h
  | .tup es, X, W, T, N, ad, F, g, x, h => by
    cases x with
    | Tuple xs kk pos => simp only [chkK, Bool.and_eq_true] at h; exact le_tup (sndKs es X W T N ad F g xs h.1 h.2)
    | _ => simp [chkK] at h
  | .lst es, X, W, T, N, ad, F, g, x, h => by
    cases x with
    | List xs pos => simp only [chkK, Bool.and_eq_true] at h; exact le_lst (sndKs es X W T N ad F g xs h.1 h.2)
    | _ => simp [chkK] at h
  | .var i, X, W, T, N, ad, F, g, x, h => by
    unfold chkK at h
    split at h <;> first | contradiction | skip
    rename_i heq; cases heq
    simp only [Bool.and_eq_true, beq_iff_eq] at h
    exact le_var (by rw [g.hN]; exact h.1.1.1) (vis_of h.1.1.2) (dbg_of h.1.2) (dcl_of h.2)
  | .and a b, X, W, T, N, ad, F, g, x, h => by
    unfold chkK at h
    split at h <;> first | contradiction | skip
    rename_i heq; cases heq
    simp only [Bool.and_eq_true] at h
    exact le_and (sndK a X W T N ad F g _ h.1) (sndK b X W T N ad F g _ h.2)
  | .one a, X, W, T, N, ad, F, g, x, h => by
    unfold chkK at h
    split at h <;> first | contradiction | skip
    rename_i heq; cases heq
    exact le_one (sndK a X W T N ad F g _ h)
  | .isx al cs a, X, W, T, N, ad, F, g, x, h => by
    unfold chkK at h
    split at h <;> first | contradiction | skip
    rename_i heq; cases heq
    simp only [Bool.and_eq_true, beq_iff_eq] at h
    obtain ⟨⟨⟨⟨⟨⟨⟨h1, h2⟩, h3⟩, h4⟩, h5⟩, h6⟩, h7⟩, h8⟩ := h
    subst h1
    exact isx_snd g h2 h3 h4 h5 h6 h7 (sndK a X W T N ad F g _ h8)
  | .bad, _, _, _, _, _, _, _, _, h | .con _ _, _, _, _, _, _, _, _, _, h | .neg _, _, _, _, _, _, _, _, _, h | .bin _ _ _, _, _, _, _, _, _, _, _, h | .cmp _ _ _, _, _, _, _, _, _, _, _, h | .or _ _, _, _, _, _, _, _, _, _, h
  | .not _, _, _, _, _, _, _, _, _, h | .ite _ _ _, _, _, _, _, _, _, _, _, h | .dk, _, _, _, _, _, _, _, _, h | .dt, _, _, _, _, _, _, _, _, h | .idx _ _, _, _, _, _, _, _, _, _, h | .slc _ _ _, _, _, _, _, _, _, _, _, h | .rev _, _, _, _, _, _, _, _, _, h | .call _ _, _, _, _, _, _, _, _, _, h
  | .blt _ _, _, _, _, _, _, _, _, _, h | .isi _ _, _, _, _, _, _, _, _, _, h | .mth _ _ _, _, _, _, _, _, _, _, _, h | .lc _ _ _ _ _, _, _, _, _, _, _, _, _, h | .lrg1 _, _, _, _, _, _, _, _, _, h | .lrg2 _ _, _, _, _, _, _, _, _, _, h | .lzip _, _, _, _, _, _, _, _, _, h
  | .nset _, _, _, _, _, _, _, _, _, h | .attr _ _ _, _, _, _, _, _, _, _, _, h | .mcall _ _ _ _, _, _, _, _, _, _, _, _, h | .new _ _ _, _, _, _, _, _, _, _, _, h | .ccall _ _ _, _, _, _, _, _, _, _, _, h | .dsp _ _, _, _, _, _, _, _, _, _, h | .tin _ _ _, _, _, _, _, _, _, _, _, h | .tget _ _, _, _, _, _, _, _, _, _, h | .lk _ _, _, _, _, _, _, _, _, _, h => by simp [chkK] at h
theorem sndKs : ∀ (es : Es) (X : Cx) (W : WX) (T : Tab) (N : List Str) (ad : Ad) (F : Fn) (g : Gw X T N ad) (xs : List Expr), chkKs T N X.env.scope es xs = true → noStars xs = true → PA X xs (LA X.K ad W (denA F es))
  | .nil, X, W, T, N, ad, F, g, [], h, _ => la_nil
  | .nil, X, W, T, N, ad, F, g, _ :: _, h, _ => by cases h
  | .cons _ _, X, W, T, N, ad, F, g, [], h, _ => by cases h
  | .cons e r, X, W, T, N, ad, F, g, x :: xs, h, hs => by
    simp only [chkKs, Bool.and_eq_true] at h
    unfold noStars at hs
    rw [List.all_cons, Bool.and_eq_true] at hs
    exact la_cons (sndK e X W T N ad F g x h.1) (sndKs r X W T N ad F g xs h.2 hs.2) (star_cons hs.1)
end
theorem noLc_call {f : Expr} {xs : List Expr} {p : Pos} : noLc (.Call f xs [] p) = true := rfl
mutual
theorem sndHc : ∀ (c : C) (X : Cx) (W : WX) (T : Tab) (N : List Str) (ad : Ad) (F : Fn) (g : Gw X T N ad) (x : Stmt), (∀ x, X.fn x = true) → chkHc T N X.env.scope c x = true → PS X x (LS X.K ad W (denS F c))
  | .set i e, X, W, T, N, ad, F, g, x, fn, h => by
    unfold chkHc at h
    split at h <;> first | contradiction | skip
    rename_i heq; cases heq
    simp only [Bool.and_eq_true, beq_iff_eq] at h
    obtain ⟨⟨⟨h1, h2⟩, h3⟩, h4⟩ := h
    exact ls_setc g.nd (by rw [g.hN]; exact h1) (loc_of h2).1 (fn _) (sndK e X W T N ad F g _ h3) (swaps h4)
  | .exp a, X, W, T, N, ad, F, g, x, fn, h => by
    unfold chkHc at h
    split at h <;> first | contradiction | skip
    rename_i heq1 heq2; cases heq1; cases heq2
    simp only [Bool.and_eq_true, beq_iff_eq] at h
    obtain ⟨⟨⟨⟨⟨h1, h2⟩, h3⟩, h4⟩, h5⟩, h6⟩ := h
    subst h1
    refine ls_ex ?_ noLc_call
    have hs : ∀ {y : Expr}, noStar y = true → noStars [y] = true := fun h => by simp [noStars, h]
    exact le_mth g.un .append rfl (sndK _ X W T N ad F g _ h4) (la_cons (sndK _ X W T N ad F g _ h5) la_nil (star_cons h6)) (hs h6) (by simp) h2 (by rw [h3]; exact beq_self_eq_true _)
  | .ife c a b, X, W, T, N, ad, F, g, x, fn, h => by
    unfold chkHc at h
    split at h <;> first | contradiction | skip
    rename_i heq1 heq2; cases heq1; cases heq2
    simp only [Bool.and_eq_true] at h
    obtain ⟨⟨⟨h1, h2⟩, h3⟩, h4⟩ := h
    exact ls_if (lt_val (sndK _ X W T N ad F g _ h1) (plainTest h2)) (sndH a X W T N ad F g _ fn h3) (sndH b X W T N ad F g _ fn h4)
  | .bad, _, _, _, _, _, _, _, _, _, h | .setc _ _ _ _ _ _, _, _, _, _, _, _, _, _, _, h | .asg _ _, _, _, _, _, _, _, _, _, _, h | .sub _ _ _, _, _, _, _, _, _, _, _, _, h | .ret _, _, _, _, _, _, _, _, _, _, h | .retn, _, _, _, _, _, _, _, _, _, h | .pas, _, _, _, _, _, _, _, _, _, h
  | .brk, _, _, _, _, _, _, _, _, _, h | .cnt, _, _, _, _, _, _, _, _, _, h | .for_ _ _ _, _, _, _, _, _, _, _, _, _, h | .whl _ _ _, _, _, _, _, _, _, _, _, _, h | .aug _ _ _, _, _, _, _, _, _, _, _, _, h | .raise _, _, _, _, _, _, _, _, _, _, h
  | .tryc _ _ _ _, _, _, _, _, _, _, _, _, _, h | .tryx _ _ _ _ _, _, _, _, _, _, _, _, _, _, h | .try2 _ _ _ _ _ _, _, _, _, _, _, _, _, _, _, h | .seta _ _ _ _, _, _, _, _, _, _, _, _, _, h | .auga _ _ _ _ _, _, _, _, _, _, _, _, _, _, h | .augs _ _ _ _, _, _, _, _, _, _, _, _, _, h | .tset _ _ _, _, _, _, _, _, _, _, _, _, h | .tryn _ _ _, _, _, _, _, _, _, _, _, _, h | .lks _ _, _, _, _, _, _, _, _, _, _, h | .asl _ _, _, _, _, _, _, _, _, _, _, h => by simp [chkHc] at h
theorem sndH : ∀ (b : B) (X : Cx) (W : WX) (T : Tab) (N : List Str) (ad : Ad) (F : Fn) (g : Gw X T N ad) (xs : List Stmt), (∀ x, X.fn x = true) → chkH T N X.env.scope b xs = true → PSs X xs (LS X.K ad W (denB F b))
  | .nil, X, W, T, N, ad, F, g, [], _, h => ls_nil
  | .nil, X, W, T, N, ad, F, g, _ :: _, _, h => by simp [chkH] at h
  | .cons c b, X, W, T, N, ad, F, g, [], _, h => by simp [chkH] at h
  | .cons c b, X, W, T, N, ad, F, g, x :: xs, fn, h => by
    simp only [chkH, Bool.and_eq_true] at h
    exact ls_cons (sndHc c X W T N ad F g x fn h.1) (sndH b X W T N ad F g xs fn h.2)
end
section
variable {ad : Ad} {e : Expr} {st : Stmt}
theorem ls_raise {X : Cx} {T : Tab} {N : List Str} {k : Nat} {W : WX} {F : Fn} {c j : Nat} {x m : Str} {p p2 pos pos' : Pos} (g : Gd X T N ad k W F) (hx : (c, x) ∈ T.excs) (hg : Gl X x) (hd : (x == ("__debug__" : Str)) = false) :
    PS X (.Raise (some (.Call (.Name x p) [.Constant (.str m) j p2] [] pos)) none pos') (LS X.K ad W fun env s => .ex c env s) := by
  obtain ⟨h1, h2, h3, h4, h5⟩ := g.exc _ hx
  exact (ps_raise g.calm g.tk (pmk_own PySem.F.excBase_ValueError h2 h1 h3 (raises_own h4 h5) hg hd)).imp fun D σ H ⟨m, s, env, hr, er, h⟩ => h m H σ .refl hr er
theorem ls_try {X : Cx} {T : Tab} {N : List Str} {k : Nat} {W : WX} {F : Fn} {c : Nat} {cs : List Nat} {b hb : B} {x : Str} {np pos pos' : Pos} {body : List Stmt} {y : Stmt} {ys : List Stmt} (g : GdS X T N ad k W F) (hx : (c, x) ∈ T.excs) (hg : Gl X x) (hd : (x == ("__debug__" : Str)) = false)
    (hcs : (cs.all fun d => T.exms.contains (d, c)) = true) (hbd : ∀ {W' : WX} {pn : List (Addr × Obj)} {xe : Value → Shared → Prop}, Takes (X.tr pn xe) W' → PassesOwn (model X.prog X.w) X.A X.env xe → PSs (X.tr pn xe) body (LS X.K ad W' (denB F b)))
    (hh : chkH T N X.env.scope hb (y :: ys) = true) :
    PS X (.Try body [.ExceptHandler (some (.Name x np)) none (y :: ys) pos'] [] [] pos) (LS X.K ad W (denS F (.tryc b c cs hb))) := by
  obtain ⟨h1, _⟩ := g.gd.exc _ hx
  refine (ps_try_only (ts := fun _ _ _ => LS X.K ad W (denB F hb)) (tb := fun W' => LS X.K ad W' (denB F b)) g.stk g.frm ⟨hg, hd, .inl h1⟩ g.gd.tk (fun W' pn xe tk hp => hbd tk hp) (fun a oe cls d pn hz hf => sndH hb _ W T N ad F (g.gd.w.suite a _) _ g.fn hh)).imp fun D σ H ⟨m, s, env, hr, er, h⟩ => ⟨m, s, env, hr, er, ?_⟩
  simp only [denS] at h
  cases hq : denB F b env s with
  | nx env' s' => rw [hq] at h; exact h
  | rt d s' => rw [hq] at h; exact h
  | bk env' s' => rw [hq] at h; exact h
  | ct env' s' => rw [hq] at h; exact h
  | no => rw [hq] at h; exact h
  | ex c' env' s' =>
    rw [hq] at h
    simp only at h
    split at h
    · rename_i hc
      have hm := List.all_eq_true.mp hcs c' (by simpa using hc)
      have he := g.gd.exm (c', c) (by simpa using hm)
      intro m' H' σ' x2 hr' er'
      refine ⟨subX c' c, he, fun hb1 a ha => ?_, fun hb1 => ?_⟩
      · rw [if_pos hb1] at h
        exact ⟨m', s', env', hr', er', h.shift x2⟩
      · rw [if_neg (by rw [hb1]; exact Bool.false_ne_true)] at h
        exact h m' H' σ' x2 hr' er'
    · exact h.elim
end
theorem os_un {K : PySem.W.Frag} {ad : Ad} {W : WX} {m : List Addr} {H : Hp} {De : Ends} {n : Nat} {r : SR} (h : OutS K ad W m H De (unS n r)) : OutS K ad W0 m H (endsN De n) r := by
  cases r with
  | nx env s => exact fun m' H' σ' x hr er => h m' H' _ x hr er.unset
  | rt d s => exact h
  | bk env s => exact fun m' H' σ' x hr er => h m' H' _ x hr er.unset
  | ct env s => exact fun m' H' σ' x hr er => h m' H' _ x hr er.unset
  | ex c env s => exact h.elim
  | no => exact h
section
variable {ad : Ad}
theorem ls_tryx {X : Cx} {T : Tab} {N : List Str} {k : Nat} {W : WX} {F : Fn} {c n : Nat} {cs : List Nat} {b hb : B} {x z : Str} {np pos pos' : Pos} {body : List Stmt} {y : Stmt} {ys : List Stmt} (g : GdS X T N ad k W F) (hx : (c, x) ∈ T.excs) (hg : Gl X x) (hd : (x == ("__debug__" : Str)) = false)
    (hcs : (cs.all fun d => T.exms.contains (d, c)) = true) (hz : N[n]? = some z) (hl : X.env.scope.names.lookup z = some .local) (hbd : ∀ {W' : WX} {pn : List (Addr × Obj)} {xe : Value → Shared → Prop}, Takes (X.tr pn xe) W' → PassesOwn (model X.prog X.w) X.A X.env xe → PSs (X.tr pn xe) body (LS X.K ad W' (denB F b)))
    (hh : chkH T N X.env.scope hb (y :: ys) = true) :
    PS X (.Try body [.ExceptHandler (some (.Name x np)) (some z) (y :: ys) pos'] [] [] pos) (LS X.K ad W (denS F (.tryx b c cs n hb))) := by
  obtain ⟨h1, _⟩ := g.gd.exc _ hx
  refine (ps_try_tr (i := n) (ts := fun _ => LS X.K ad W0 (denB F hb)) (tb := fun W' => LS X.K ad W' (denB F b)) g.stk g.frm g.gd.nd (by rw [g.gd.hN]; exact hz) hl ⟨hg, hd, .inl h1⟩ g.gd.tk (fun W' pn xe tk hp => hbd tk hp) (fun a cls pn => sndH hb _ W0 T N ad F (g.gd.w.suite a _) _ g.fn hh)).imp fun D σ H ⟨m, s, env, hr, er, h⟩ => ⟨m, s, env, hr, er, ?_⟩
  simp only [denS] at h
  cases hq : denB F b env s with
  | nx env' s' => rw [hq] at h; exact h
  | rt d s' => rw [hq] at h; exact h
  | bk env' s' => rw [hq] at h; exact h
  | ct env' s' => rw [hq] at h; exact h
  | no => rw [hq] at h; exact h
  | ex c' env' s' =>
    rw [hq] at h
    simp only at h
    split at h
    · rename_i hc
      have hm := List.all_eq_true.mp hcs c' (by simpa using hc)
      have he := g.gd.exm (c', c) (by simpa using hm)
      intro m' H' σ' x2 hr' er'
      refine ⟨rfl, subX c' c, he, fun hb1 a ha => ?_, fun hb1 => ?_⟩
      · rw [if_pos hb1] at h
        obtain ⟨h2, x3⟩ := hr'.new (u := ExH (.ref (ad.ea c')) a) (o := .exo c') ha (by
          show upd H' a _ a = some (ExH (.ref (ad.ca (1000 + c'))) a)
          rw [upd_same, g.gd.cae])
        refine ⟨_, _, _, h2, (er'.mono x3.toLe).set (.ref ?_), os_un ((h.shift x2).shift x3)⟩
        rw [← hr'.len, List.getElem?_append_right (Nat.le_refl _)]
        simp
      · rw [if_neg (by rw [hb1]; exact Bool.false_ne_true)] at h
        exact h m' H' σ' x2 hr' er'
    · exact h.elim
theorem ls_try2 {X : Cx} {T : Tab} {N : List Str} {k : Nat} {W : WX} {F : Fn} {c1 c2 : Nat} {cs : List Nat} {b hb1 hb2 : B} {x1 x2 : Str} {np1 np2 pos pos1 pos2 : Pos} {body : List Stmt} {y1 y2 : Stmt} {ys1 ys2 : List Stmt} (g : GdS X T N ad k W F)
    (hx1 : (c1, x1) ∈ T.excs) (hg1 : Gl X x1) (hd1 : (x1 == ("__debug__" : Str)) = false) (hx2 : (c2, x2) ∈ T.excs) (hg2 : Gl X x2) (hd2 : (x2 == ("__debug__" : Str)) = false)
    (hcs1 : (cs.all fun d => T.exms.contains (d, c1)) = true) (hcs2 : (cs.all fun d => T.exms.contains (d, c2)) = true) (hbd : ∀ {W' : WX} {pn : List (Addr × Obj)} {xe : Value → Shared → Prop}, Takes (X.tr pn xe) W' → PassesOwn (model X.prog X.w) X.A X.env xe → PSs (X.tr pn xe) body (LS X.K ad W' (denB F b)))
    (hh1 : chkH T N X.env.scope hb1 (y1 :: ys1) = true) (hh2 : chkH T N X.env.scope hb2 (y2 :: ys2) = true) :
    PS X (.Try body [.ExceptHandler (some (.Name x1 np1)) none (y1 :: ys1) pos1, .ExceptHandler (some (.Name x2 np2)) none (y2 :: ys2) pos2] [] [] pos) (LS X.K ad W (denS F (.try2 b cs c1 hb1 c2 hb2))) := by
  obtain ⟨h1, _⟩ := g.gd.exc _ hx1
  obtain ⟨h2, _⟩ := g.gd.exc _ hx2
  refine (ps_try_many (tb := fun W' => LS X.K ad W' (denB F b)) (l := [(.ref (ad.ea c1), fun _ _ _ => LS X.K ad W (denB F hb1)), (.ref (ad.ea c2), fun _ _ _ => LS X.K ad W (denB F hb2))]) g.stk g.frm g.gd.tk (fun W' pn xe tk hp => hbd tk hp)
    (.cons ⟨hg1, hd1, .inl h1⟩ (fun a oe cls d pn hz hf => sndH hb1 _ W T N ad F (g.gd.w.suite a _) _ g.fn hh1) (.cons ⟨hg2, hd2, .inl h2⟩ (fun a oe cls d pn hz hf => sndH hb2 _ W T N ad F (g.gd.w.suite a _) _ g.fn hh2) .nil))).imp fun D σ H ⟨m, s, env, hr, er, h⟩ => ⟨m, s, env, hr, er, ?_⟩
  simp only [denS] at h
  cases hq : denB F b env s with
  | nx env' s' => rw [hq] at h; exact h
  | rt d s' => rw [hq] at h; exact h
  | bk env' s' => rw [hq] at h; exact h
  | ct env' s' => rw [hq] at h; exact h
  | no => rw [hq] at h; exact h
  | ex c' env' s' =>
    rw [hq] at h
    simp only at h
    split at h
    · rename_i hc
      have he1 := g.gd.exm (c', c1) (by simpa using List.all_eq_true.mp hcs1 c' (by simpa using hc))
      have he2 := g.gd.exm (c', c2) (by simpa using List.all_eq_true.mp hcs2 c' (by simpa using hc))
      intro m' H' σ' x2 hr' er'
      refine ⟨subX c' c1, he1, fun hb a ha => ?_, fun hb => ⟨subX c' c2, he2, fun hb' a ha => ?_, fun hb' => ?_⟩⟩
      · rw [if_pos hb] at h
        exact ⟨m', s', env', hr', er', h.shift x2⟩
      · rw [if_neg (by rw [hb]; exact Bool.false_ne_true), if_pos hb'] at h
        exact ⟨m', s', env', hr', er', h.shift x2⟩
      · rw [if_neg (by rw [hb]; exact Bool.false_ne_true), if_neg (by rw [hb']; exact Bool.false_ne_true)] at h
        exact h m' H' σ' x2 hr' er'
    · exact h.elim
end
section
variable {X : Cx} {T : Tab} {N : List Str} {ad : Ad} {k : Nat} {W : WX} {F : Fn} {cs : List Nat}
def hsl (X : Cx) (ad : Ad) (W : WX) (F : Fn) : Hs → List (Value × (Addr → Value → Option Addr → TS))
  | .nil => []
  | .cons c h r => (.ref (ad.ea c), fun _ _ _ => LS X.K ad W (denB F h)) :: hsl X ad W F r
theorem hds_ok (g : GdS X T N ad k W F) : ∀ (hs : Hs) (hds : List ExceptHandler), chkHs T N X.env.scope cs hs hds = true → HdsOk X hds (hsl X ad W F hs)
  | .nil, [], _ => .nil
  | .nil, _ :: _, h => by simp [chkHs] at h
  | .cons _ _ _, [], h => by simp [chkHs] at h
  | .cons c hb r, hd :: hds, h => by
    unfold chkHs at h
    split at h <;> first | contradiction | skip
    · rename_i heq1 heq2
      cases heq1; cases heq2
      simp only [Bool.and_eq_true] at h
      obtain ⟨⟨⟨⟨⟨h1, h2⟩, h3⟩, h4⟩, h5⟩, h6⟩ := h
      exact .cons ⟨gl_of h2, dbg_of h3, .inl (g.gd.exc _ (by simpa using h1)).1⟩ (fun a oe cls d pn hz hf => sndH _ _ W T N ad F (g.gd.w.suite a _) _ g.fn h5) (hds_ok g _ _ h6)
theorem many_of (g : GdS X T N ad k W F) {m m' : List Addr} {H H' : Hp} {De : Ends} {c' : Nat} {env : Env} {s : S} {σ' : L2.St} (hc : cs.contains c' = true) (x : Ext X.K m H m' H') (hr : HR X.K ad.ca m' s H') (er : ER X.K m' H' σ' env) :
    ∀ (hs : Hs) (hds : List ExceptHandler), chkHs T N X.env.scope cs hs hds = true → OutS X.K ad W m H De (denHs F hs c' env s) → wMany X.K W De (hsl X ad W F hs) (.ref (ad.ea c')) none σ' H'
  | .nil, _, _, h => h m' H' σ' x hr er
  | .cons _ _ _, [], h, _ => by simp [chkHs] at h
  | .cons c hb r, hd :: hds, h, ho => by
    unfold chkHs at h
    split at h <;> first | contradiction | skip
    · rename_i heq1 heq2
      cases heq1; cases heq2
      simp only [Bool.and_eq_true] at h
      obtain ⟨⟨⟨⟨⟨h1, h2⟩, h3⟩, h4⟩, h5⟩, h6⟩ := h
      have hm := List.all_eq_true.mp h4 c' (by simpa using hc)
      have he := g.gd.exm (c', _) (by simpa using hm)
      simp only [denHs] at ho
      refine ⟨_, he, fun hb1 a ha => ?_, fun hb1 => ?_⟩
      · rw [if_pos hb1] at ho
        exact ⟨m', s, env, hr, er, ho.shift x⟩
      · rw [if_neg (by rw [hb1]; exact Bool.false_ne_true)] at ho
        exact many_of g hc x hr er _ _ h6 ho
theorem ls_tryn (g : GdS X T N ad k W F) {b : B} {hs : Hs} {body : List Stmt} {h₀ : ExceptHandler} {hds : List ExceptHandler} {pos : Pos} (hbd : ∀ {W' : WX} {pn : List (Addr × Obj)} {xe : Value → Shared → Prop}, Takes (X.tr pn xe) W' → PassesOwn (model X.prog X.w) X.A X.env xe → PSs (X.tr pn xe) body (LS X.K ad W' (denB F b)))
    (hh : chkHs T N X.env.scope cs hs (h₀ :: hds) = true) : PS X (.Try body (h₀ :: hds) [] [] pos) (LS X.K ad W (denS F (.tryn b cs hs))) := by
  refine (ps_try_many (tb := fun W' => LS X.K ad W' (denB F b)) (l := hsl X ad W F hs) g.stk g.frm g.gd.tk (fun W' pn xe tk hp => hbd tk hp) (hds_ok g hs _ hh)).imp fun D σ H ⟨m, s, env, hr, er, h⟩ => ⟨m, s, env, hr, er, ?_⟩
  simp only [denS] at h
  cases hq : denB F b env s with
  | nx env' s' => rw [hq] at h; exact h
  | rt d s' => rw [hq] at h; exact h
  | bk env' s' => rw [hq] at h; exact h
  | ct env' s' => rw [hq] at h; exact h
  | no => rw [hq] at h; exact h
  | ex c' env' s' =>
    rw [hq] at h
    simp only at h
    split at h
    · rename_i hc
      intro m' H' σ' x2 hr' er'
      exact many_of g hc x2 hr' er' hs _ hh h
    · exact h.elim
end
mutual
theorem sndS : ∀ (c : C) {X : Cx} {W : WX} (g : GdS X T N ad k W F) (x : Stmt), chkS T N X.env.scope c x = true → PS X x (LS X.K ad W (denS F c))
  | .bad, X, W, g, x, h => ls_no
  | .set i e, X, W, g, x, h => by
    unfold chkS at h
    split at h <;> first | contradiction | skip
    rename_i heq; cases heq
    simp only [Bool.and_eq_true, beq_iff_eq] at h
    obtain ⟨⟨⟨h1, h2⟩, h3⟩, h4⟩ := h
    exact ls_setc g.gd.nd (by rw [g.gd.hN]; exact h1) (loc_of h2).1 (g.fn _) (sndE e X W g.gd _ h3) (sw_cell h4)
  | .setc i own tg w c a, X, W, g, x, h => by
    unfold chkS at h
    split at h <;> first | contradiction | skip
    rename_i heq; cases heq
    simp only [Bool.and_eq_true, beq_iff_eq, Bool.not_eq_true'] at h
    obtain ⟨⟨⟨⟨h1, h2⟩, h3⟩, h4⟩, h5⟩ := h
    unfold chkE at h5
    simp only [Bool.and_eq_true] at h5
    obtain ⟨⟨⟨⟨⟨⟨k1, k2⟩, k3⟩, k4⟩, k5⟩, k6⟩, k7⟩ := h5
    refine (ps_setLc (own := own) (te := LE X.K ad W0 (denE F a)) (tt := LT X.K ad W0 (denC F c)) (wi := LI X.K ad W (denW F w)) (g := LG X.K ad tg.slots (denG tg)) g.gd.calm g.gd.nd (by rw [g.gd.hN]; exact h1) h2 (sw_true g.kind h2 (by rw [h3]; exact beq_self_eq_true _) h4) (sndW w X W g.gd _ _ k1) (blkOk_by (by rw [g.gd.hN]; exact k2))
      (fun s H C cl fp => sndG (X := X.blk s H _ (compEnvC _ cl C X.env) fp) g.gd.calm g.gd.hN g.gd.nd (fun x hx => hx) tg _ k3)
      (fun s H C cl fp => sndC c _ W0 (g.gd.blk s H _ C cl fp) _ k4) (fun s H C cl fp => sndE a _ W0 (g.gd.blk s H _ C cl fp) _ k5) (folded k6)).imp fun D σ H ⟨m, s, env, hr, er, h⟩ => ?_
    refine lc_reads (ad := ad) (fun i hi => ?_) ⟨m, s, env, hr, er, OutS.ofE er h fun d s1 m1 H1 v _ x1 hr1 rv er1 h1 => h1 m1 H1 _ .refl hr1 (er1.set rv)⟩
    have := List.all_eq_true.mp k7 i hi
    simpa using this
  | .asg tg e, X, W, g, x, h => by
    unfold chkS at h
    split at h <;> first | contradiction | skip
    rename_i heq; cases heq
    simp only [Bool.and_eq_true] at h
    obtain ⟨⟨⟨⟨⟨h1, h2⟩, h3⟩, h4⟩, h5⟩, h6⟩ := h
    rw [Bool.or_eq_true, Bool.or_eq_true] at h4
    rcases h4 with (h4 | h4) | h4
    · exact ls_asg (sndE e X W g.gd _ h2) (sndG g.gd.calm g.gd.hN g.gd.nd (fun x _ => g.fn x) tg _ h1) (sole_sw h3) (noTup_sw h4) h5
    · unfold parOk at h4
      split at h4 <;> first | contradiction | skip
      rename_i i j x px z pz kt pt a b k2 pt2
      simp only [Bool.and_eq_true, beq_iff_eq, bne_iff_ne, ne_eq, Bool.not_eq_true'] at h4
      obtain ⟨⟨⟨⟨⟨⟨⟨⟨⟨q1, q2⟩, q3⟩, q4⟩, q5⟩, q6⟩, q7⟩, q8⟩, q9⟩, q10⟩ := h4
      refine (ls_par g.gd.calm g.gd.nd (by rw [g.gd.hN]; exact q1) (by rw [g.gd.hN]; exact q2) q3 q4 q5 (sndE e X W g.gd _ h2) (par_sw g.kind q4 q5 q6 q7 q8 q9 q10) (sole_sw h3)).imp fun D σ H ⟨m, s, env, hr, er, h⟩ => ⟨m, s, env, hr, er, ?_⟩
      rw [par_den]
      exact h
    · exact ls_asg (sndE e X W g.gd _ h2) (sndG g.gd.calm g.gd.hN g.gd.nd (fun x _ => g.fn x) tg _ h1) (sole_sw h3) (cel_sw h4) h5
  | .sub o i e, X, W, g, x, h => by
    unfold chkS at h
    split at h <;> first | contradiction | skip
    rename_i heq; cases heq
    simp only [Bool.and_eq_true] at h
    obtain ⟨⟨⟨h1, h2⟩, h3⟩, h4⟩ := h
    exact ls_sub (units g.gd) (sndE e X W g.gd _ h3) (sndE o X W g.gd _ h1) (sndE i X W g.gd _ h2) h4
  | .exp e, X, W, g, x, h => by
    unfold chkS at h
    split at h <;> first | contradiction | skip
    rename_i heq; cases heq
    simp only [Bool.and_eq_true] at h
    exact ls_ex (sndE e X W g.gd _ h.1) h.2
  | .ret e, X, W, g, x, h => by
    unfold chkS at h
    split at h <;> first | contradiction | skip
    rename_i heq; cases heq
    exact ls_ret (sndE e X W g.gd _ h)
  | .retn, X, W, g, x, h => by
    unfold chkS at h
    split at h <;> first | contradiction | skip
    exact ls_retN
  | .pas, X, W, g, x, h => by
    unfold chkS at h
    split at h <;> first | contradiction | skip
    exact ls_pas
  | .brk, X, W, g, x, h => by
    unfold chkS at h
    split at h <;> first | contradiction | skip
    exact ls_brk
  | .cnt, X, W, g, x, h => by
    unfold chkS at h
    split at h <;> first | contradiction | skip
    exact ls_cnt
  | .ife c a b, X, W, g, x, h => by
    unfold chkS at h
    split at h <;> first | contradiction | skip
    rename_i heq; cases heq
    simp only [Bool.and_eq_true] at h
    exact ls_if (sndT c X W g.gd _ h.1.1) (sndB a g _ h.1.2) (sndB b g _ h.2)
  | .for_ tg w b, X, W, g, x, h => by
    unfold chkS at h
    split at h <;> first | contradiction | skip
    rename_i heq; cases heq
    simp only [Bool.and_eq_true] at h
    obtain ⟨⟨⟨h1, h2⟩, h3⟩, h4⟩ := h
    exact ls_for g.pass g.gd.calm (sndW w X W g.gd _ _ h1) (sndG g.gd.calm g.gd.hN g.gd.nd (fun x _ => g.fn x) tg _ h2) (sndB b g _ h3) h4
  | .whl n c b, X, W, g, x, h => by
    unfold chkS at h
    split at h <;> first | contradiction | skip
    rename_i heq; cases heq
    simp only [Bool.and_eq_true] at h
    exact ls_while n g.pass (sndT c X W g.gd _ h.1) (sndB b g _ h.2)
  | .aug i o e, X, W, g, x, h => by
    unfold chkS at h
    split at h <;> first | contradiction | skip
    rename_i heq; cases heq
    simp only [Bool.and_eq_true, beq_iff_eq] at h
    obtain ⟨⟨⟨h0, h1⟩, h2⟩, h3⟩ := h
    subst h0
    exact ls_aug o g.gd.nd (by rw [g.gd.hN]; exact h1) (loc_of h2).1 (g.fn _) (sndE e X W g.gd _ h3)
  | .raise c, X, W, g, x, h => by
    unfold chkS at h
    split at h <;> first | contradiction | skip
    rename_i heq; cases heq
    simp only [Bool.and_eq_true] at h
    exact ls_raise g.gd (by simpa using h.1.1) (gl_of h.1.2) (dbg_of h.2)
  | .tryc b c cs hd, X, W, g, x, h => by
    unfold chkS at h
    split at h <;> first | contradiction | skip
    rename_i heq; cases heq
    simp only [Bool.and_eq_true] at h
    obtain ⟨⟨⟨⟨⟨h1, h2⟩, h3⟩, h4⟩, h5⟩, h6⟩ := h
    exact ls_try g (by simpa using h1) (gl_of h2) (dbg_of h3) h4 (fun tk hp => sndB b (g.tr tk hp) _ h5) h6
  | .tryx b c cs n hd, X, W, g, x, h => by
    unfold chkS at h
    split at h <;> first | contradiction | skip
    rename_i heq; cases heq
    simp only [Bool.and_eq_true, beq_iff_eq] at h
    obtain ⟨⟨⟨⟨⟨⟨⟨h1, h2⟩, h3⟩, h4⟩, h5⟩, h6⟩, h7⟩, h8⟩ := h
    exact ls_tryx g (by simpa using h1) (gl_of h2) (dbg_of h3) h4 h5 h6 (fun tk hp => sndB b (g.tr tk hp) _ h7) h8
  | .try2 b cs c1 hd1 c2 hd2, X, W, g, x, h => by
    unfold chkS at h
    split at h <;> first | contradiction | skip
    rename_i heq; cases heq
    simp only [Bool.and_eq_true] at h
    obtain ⟨⟨⟨⟨⟨⟨⟨⟨⟨⟨h1, h2⟩, h3⟩, h4⟩, h5⟩, h6⟩, h7⟩, h8⟩, h9⟩, h10⟩, h11⟩ := h
    exact ls_try2 g (by simpa using h1) (gl_of h2) (dbg_of h3) (by simpa using h4) (gl_of h5) (dbg_of h6) h7 h8 (fun tk hp => sndB b (g.tr tk hp) _ h9) h10 h11
  | .seta o f cs e, X, W, g, x, h => by
    unfold chkS at h
    split at h <;> first | contradiction | skip
    rename_i heq; cases heq
    simp only [Bool.and_eq_true, beq_iff_eq] at h
    obtain ⟨⟨⟨h1, h2⟩, h3⟩, h4⟩ := h
    subst h1
    exact ls_seta (g.gd.clf h2) (sndE o X W g.gd _ h3) (sndE e X W g.gd _ h4)
  | .auga o f cs op e, X, W, g, x, h => by
    unfold chkS at h
    split at h <;> first | contradiction | skip
    rename_i heq; cases heq
    simp only [Bool.and_eq_true, beq_iff_eq] at h
    obtain ⟨⟨⟨⟨h0, h1⟩, h2⟩, h3⟩, h4⟩ := h
    subst h0 h1
    exact ls_auga op (g.gd.clf h2) (sndE o X W g.gd _ h3) (sndE e X W g.gd _ h4)
  | .augs o i op e, X, W, g, x, h => by
    unfold chkS at h
    split at h <;> first | contradiction | skip
    rename_i heq; cases heq
    simp only [Bool.and_eq_true, beq_iff_eq] at h
    obtain ⟨⟨⟨⟨h0, h1⟩, h2⟩, h3⟩, h4⟩ := h
    subst h0
    exact ls_augs op (sndE o X W g.gd _ h1) (sndE i X W g.gd _ h2) (sndE e X W g.gd _ h4) h3
  | .tset d es e, X, W, g, x, h => by
    unfold chkS at h
    split at h <;> first | contradiction | skip
    rename_i heq; cases heq
    simp only [Bool.and_eq_true] at h
    obtain ⟨⟨⟨h0, h1⟩, h2⟩, h3⟩ := h
    exact ls_tset (units g.gd) (sndE e X W g.gd _ h3) (sndE d X W g.gd _ h0) (sndA es X W g.gd _ h1 h2)
  | .tryn b cs hs, X, W, g, x, h => by
    unfold chkS at h
    split at h <;> first | contradiction | skip
    rename_i heq; cases heq
    simp only [Bool.and_eq_true] at h
    exact ls_tryn g (fun tk hp => sndB b (g.tr tk hp) _ h.1) h.2
  | .asl ts e, X, W, g, x, h => by
    unfold chkS at h
    split at h <;> first | contradiction | skip
    rename_i heq; cases heq
    simp only [Bool.and_eq_true] at h
    obtain ⟨⟨⟨⟨⟨h1, h2⟩, h3⟩, h4⟩, h5⟩, h6⟩ := h
    have e0 : denS F (.asl ts e) = fun env s => (denE F e env s).st env fun d s1 => match unL s1 d with | some ds => (match (if ds.length = ts.len then denGs ts ds env else none) with | some env1 => .nx env1 s1 | none => .no) | none => .no := by
      funext env s; simp only [denS] <;> rfl
    rw [e0, ← chkGs_len ts _ h1]
    exact ls_asl (sndE e X W g.gd _ h3) (lg_tl g.gd.calm (sndGs g.gd.calm g.gd.hN g.gd.nd (fun x _ => g.fn x) ts _ h1) h2) (sole_sw h4) (noTup_sw h5) h6
  | .lks d c, X, W, g, x, h => by
    unfold chkS at h
    exact ls_lk (sndS c g _ h)
theorem sndB : ∀ (b : B) {X : Cx} {W : WX} (g : GdS X T N ad k W F) (xs : List Stmt), chkB T N X.env.scope b xs = true → PSs X xs (LS X.K ad W (denB F b))
  | .nil, X, W, g, [], h => ls_nil
  | .nil, X, W, g, _ :: _, h => by cases h
  | .cons _ _, X, W, g, [], h => by cases h
  | .cons c b, X, W, g, x :: xs, h => by
    simp only [chkB, Bool.and_eq_true] at h
    exact ls_cons (sndS c g x h.1) (sndB b g xs h.2)
end
end
end T
set_option Elab.async false
set_option linter.all false
set_option maxRecDepth 100000
set_option maxHeartbeats 4000000
/-! TLo: the defs of a text, and that each does what its term does. -/
namespace T
open PySem PySem.Spec L2
open PyProof.Rows hiding St
def endR : SR → R D
  | .nx _ s => .ok .non s
  | .rt d s => .ok d s
  | .ex c _ s => .ex c s
  | _ => .no
noncomputable def runD (F : Fn) (d : Df) (args : List D) (s : S) : R D := endR (denB F d.b (args.map some ++ List.replicate (d.N.length - args.length) none) s)
noncomputable def callK (P : List (Nat × Df)) : Nat → Fn
  | 0, _, _, _ => .no
  | k + 1, j, args, s => match P.lookup j with
    | some d => runD (callK P k) d args s
    | none => .no
theorem callK_succ {P : List (Nat × Df)} {k j : Nat} {d : Df} {args : List D} {s : S} (h : P.lookup j = some d) : callK P (k + 1) j args s = runD (callK P k) d args s := by
  unfold callK; rw [h]
def scB (N ps : List Str) (sc : Scope) : Bool :=
  sc.kind == .function && !sc.isCoroutine && !sc.isGenerator && decide N.Nodup && N.take ps.length == ps && ps.all (fun x => sc.names.lookup x == some .local || sc.names.lookup x == some .cell) && sc.names.all (fun y => !(y.2 == .free))
theorem scB_of {N ps : List Str} {sc : Scope} (h : scB N ps sc = true) : FnScope N ps sc := by
  unfold scB at h
  simp only [Bool.and_eq_true, beq_iff_eq, decide_eq_true_eq, Bool.not_eq_true', List.all_eq_true, Bool.or_eq_true, beq_eq_false_iff_ne] at h
  obtain ⟨⟨⟨⟨⟨⟨h1, h2⟩, h3⟩, h4⟩, h5⟩, h6⟩, h7⟩ := h
  exact ⟨h1, h2, h3, h4, h5, h6, h7⟩
def Df.chk (T : Tab) (d : Df) (st : Stmt) : Bool := scB d.N d.ps (defScope st) && chkB T d.N (defScope st) d.b (defBody st)
/-- what C.__init__(o) asks of the class -/
def IniF (K : PySem.W.Frag) (mg : Str → Option Value) (T : Tab) (ad : Ad) (j : Nat) (d : Df) (f : Addr) : Prop := ∀ c x np, (c, x, j, np) ∈ T.inis → np = d.ps.length ∧ mg x = some (.ref (ad.ca c)) ∧ PySem.W.readsIn K (ad.ca c) (.type "type") = true ∧
  PySem.W.specialIn K (.ref (ad.ca c)) "__getattribute__" = some (some (.builtin "type.__getattribute__")) ∧ PySem.W.findCls K (.ref (ad.ca c)) (.type "type") "__init__" = some (.val (.ref f))
/-- what the top has written -/
structure Tops (K : PySem.W.Frag) (mg : Str → Option Value) (P : List (Nat × Df)) (ST : List Stmt) (T : Tab) (ad : Ad) : Prop where
  funs : ∀ (i j : Nat) (d : Df) (st : Stmt), P[i]? = some (j, d) → ST[i]? = some st → ∃ (f : Addr) (fd : FuncData), (d.gn ≠ ("" : Str) → mg d.gn = some (.ref f)) ∧ FunD K d.nm d.q (defArgs st) (defBody st) (defScope st) [] [] f fd ∧ Binds K fd d.ps [] ∧ (∀ (s : Shared) (us : List Value), us.length = d.ps.length → BindsTo s fd ⟨us, []⟩ (d.ps.zip us)) ∧
    (∀ c m np, (c, m, j, np) ∈ T.meths → np = d.ps.length ∧ Cls K (ad.ca c) ∧ Meth K (ad.ca c) m f) ∧ (∀ c np x, (c, ("__init__" : Str), j, np) ∈ T.meths → (c, x) ∈ T.clss → mg x = some (.ref (ad.ca c)) ∧ Mk K (ad.ca c) f) ∧ IniF K mg T ad j d f
  free : ∀ x ∈ T.free, mg x = none
  cons : ∀ p ∈ T.cons, ∃ u, mg p.1 = some u ∧ RelV p.2.v u
  exc : ∀ p ∈ T.excs, mg p.2 = some (.ref (ad.ea p.1)) ∧ PySem.W.excIn K (ad.ea p.1) [.type "ValueError", .type "Exception", .type "BaseException", .type "object"] "ValueError.__new__" = true ∧ PySem.W.keepIn K (.ref (ad.ea p.1)) = true ∧
    PySem.W.subIn K (.ref (ad.ea p.1)) (.type "BaseException") = some true ∧ PySem.W.typeIn K (.ref (ad.ea p.1)) = some (.type "type")
  exm : ∀ p ∈ T.exms, PySem.W.exmOne K (.ref (ad.ea p.1)) (.ref (ad.ea p.2)) = some (subX p.1 p.2)
  cae : ∀ c, ad.ca (1000 + c) = ad.ea c
  exf : ExF K ad T
  noat : ∀ p ∈ T.noat, Cls K (ad.ca p.1) ∧ NoAttr K (ad.ca p.1) p.2
  mts : ∀ q ∈ T.meths, ∃ d : Df, P.lookup q.2.2.1 = some d
  its : ∀ q ∈ T.inis, ∃ d : Df, P.lookup q.2.2.1 = some d
/-- each def's term is its text -/
def allChk (T : Tab) : List (Nat × Df) → List Stmt → Bool
  | [], [] => true
  | d :: P, st :: ST => d.2.chk T st && allChk T P ST
  | _, _ => false
theorem allChk_at {T : Tab} : ∀ {P : List (Nat × Df)} {ST : List Stmt}, allChk T P ST = true → ∀ (j : Nat) (d : Df), P.lookup j = some d → ∃ (i : Nat) (st : Stmt), P[i]? = some (j, d) ∧ ST[i]? = some st ∧ d.chk T st = true
  | [], [], _, j, d, h => by simp at h
  | [], _ :: _, h, _, _, _ => by cases h
  | _ :: _, [], h, _, _, _ => by cases h
  | (i, e) :: P, st :: ST, h, j, d, he => by
    simp only [allChk, Bool.and_eq_true] at h
    rw [List.lookup_cons] at he
    split at he
    · rename_i hb
      cases he
      have hb := beq_iff_eq.mp hb
      subst hb
      exact ⟨0, st, rfl, rfl, h.1⟩
    · obtain ⟨n, u, h1, h2, h3⟩ := allChk_at h.2 j d he
      exact ⟨n + 1, u, by simpa using h1, by simpa using h2, h3⟩
section
variable {Pg : Program} {w : World} {K : PySem.W.Frag} {mg : Str → Option Value} {P : List (Nat × Df)} {ST : List Stmt} {T : Tab} {ad : Ad}
theorem er_start {m : List Addr} {H : Hp} {N : List Str} {vs : List V} {ds : List D} (r : RDs K m H vs ds) : ER K m H (L2.start N vs) (ds.map some ++ List.replicate (N.length - ds.length) none) := by
  unfold L2.start
  refine ⟨by simp [r.length], fun i d h => ?_⟩
  by_cases hi : i < ds.length
  · rw [List.getElem?_append_left (by simpa using hi), List.getElem?_map] at h
    cases e : ds[i]? with
    | none => rw [e] at h; cases h
    | some x =>
      rw [e] at h
      simp at h; subst h
      obtain ⟨v, h1, h2⟩ := r.get e
      refine ⟨v, ?_, h2⟩
      rw [List.getElem?_append_left (by simpa [r.length] using hi), List.getElem?_map, h1]
      rfl
  · rw [List.getElem?_append_right (by simpa using hi)] at h
    rw [List.getElem?_replicate] at h
    split at h <;> cases h
theorem lookup_map {α β : Type} (f : α → β) (j : Nat) : ∀ P : List (Nat × α), (P.map fun p => (p.1, f p.2)).lookup j = (P.lookup j).map f
  | [] => rfl
  | (i, d) :: P => by
    rw [List.map_cons, List.lookup_cons, List.lookup_cons]
    cases h : (j == i) with
    | true => rfl
    | false => exact lookup_map f j P
theorem all_ok (hT : T.defs = P.map fun d => (d.1, d.2.gn, d.2.ps.length)) (hC : allChk T P ST = true) (tops : Tops K mg P ST T ad) : ∀ (k j : Nat) (d : Df), P.lookup j = some d →
    ∃ (f : Addr) (fd : FuncData), (d.gn ≠ ("" : Str) → mg d.gn = some (.ref f)) ∧ PySem.W.keepIn K (.ref f) = true ∧ Binds K fd d.ps [] ∧ (∀ (s : Shared) (us : List Value), us.length = d.ps.length → BindsTo s fd ⟨us, []⟩ (d.ps.zip us)) ∧ (∀ base : Heap, FnOk Pg w K mg base (L2.CX Pg w) (2 * k) f fd d.ps (SpD K ad d.ps.length (callK P k j))) ∧
    (∀ c m np, (c, m, j, np) ∈ T.meths → np = d.ps.length ∧ Cls K (ad.ca c) ∧ Meth K (ad.ca c) m f) ∧ (∀ c np x, (c, ("__init__" : Str), j, np) ∈ T.meths → (c, x) ∈ T.clss → mg x = some (.ref (ad.ca c)) ∧ Mk K (ad.ca c) f) ∧ IniF K mg T ad j d f
  | 0, j, d, hd => by
    obtain ⟨i, st, hi, hst, hc⟩ := allChk_at hC j d hd
    obtain ⟨f, fd, h1, h2, h3, h3a, h3b, h3c⟩ := tops.funs i j d st hi hst
    refine ⟨f, fd, h1, h2.kp, h3, h3a, fun base => ⟨fun vs H Q E h => h.1, fun A outer s H args us vs Q E hr _ _ _ h => ?_⟩, h3b, h3c⟩
    obtain ⟨_, m, s, ds, _, _, z⟩ := h
    exact z.elim
  | k + 1, j, d, hd => by
    obtain ⟨i, st, hi, hst, hc⟩ := allChk_at hC j d hd
    obtain ⟨f, fd, h1, h2, h3, h3a, h3b, h3c⟩ := tops.funs i j d st hi hst
    unfold Df.chk at hc
    rw [Bool.and_eq_true] at hc
    have S := scB_of hc.1
    refine ⟨f, fd, h1, h2.kp, h3, h3a, fun base => ?_, h3b, h3c⟩
    show FnOk Pg w K mg base (L2.CX Pg w) (2 * k + 1 + 1) f fd d.ps (SpD K ad d.ps.length (callK P (k + 1) j))
    refine h2.ok S (fun vs H Q E h => h.1) fun cdv A outer s H vs Q E hr h => ⟨LS K ad (fun cls d _ H => E cls d H) (denB (callK P k) d.b), ?_, ?_⟩
    · refine sndB (N := d.N) (k := 2 * k) d.b ⟨⟨rfl, hr, rfl, S.nd, tops.free, tops.cons, fun i nm np hi hn => ⟨?_⟩, takes_of rfl rfl rfl rfl, tops.exc, tops.exm, tops.cae, tops.exf, tops.noat, fun c m j' np hm => ⟨?_⟩, fun c x j' np h1 h2 => ⟨?_⟩, fun c x j' np hi => ⟨?_⟩⟩, fun _ => rfl, passes_of rfl, S.kind, rfl, rfl⟩ _ hc.2
      · rw [hT, lookup_map (fun d : Df => (d.gn, d.ps.length))] at hi
        cases e : P.lookup i with
        | none => rw [e] at hi; cases hi
        | some d' =>
          rw [e] at hi
          simp only [Option.map_some, Option.some.injEq, Prod.mk.injEq] at hi
          obtain ⟨rfl, rfl⟩ := hi
          obtain ⟨f', fd', g1, g2, g3, _, g4, _⟩ := all_ok hT hC tops k i d' e
          exact ⟨f', fd', d'.ps, g1 hn, g2, g3, g4 base⟩
      · obtain ⟨d', e⟩ := tops.mts _ hm
        obtain ⟨f', fd', g1, g2, g3, _, g4, g5, _⟩ := all_ok hT hC tops k j' d' e
        obtain ⟨e1, c1, c2⟩ := g5 c m np hm
        subst e1
        exact ⟨f', fd', d'.ps, c1, c2, g3, g4 base⟩
      · obtain ⟨d', e⟩ := tops.mts _ h2
        obtain ⟨f', fd', g1, g2, g3, _, g4, g5, g6, _⟩ := all_ok hT hC tops k j' d' e
        obtain ⟨e1, c1, c2⟩ := g5 c _ np h2
        obtain ⟨m1, m2⟩ := g6 c np x h2 h1
        subst e1
        exact ⟨f', fd', d'.ps, m1, m2, g3, g4 base⟩
      · obtain ⟨d', e⟩ := tops.its _ hi
        obtain ⟨f', fd', g1, g2, g3, _, g4, g5, g6, g7⟩ := all_ok hT hC tops k j' d' e
        obtain ⟨e1, c1, c2, c3, c4⟩ := g7 c x np hi
        subst e1
        exact ⟨f', fd', d'.ps, c1, c2, c3, c4, g2, g3, g4 base⟩
    · obtain ⟨hl, m, s1, ds, hr1, rv, h⟩ := h
      refine ⟨m, s1, _, hr1, er_start rv, ?_⟩
      rw [callK_succ hd] at h
      unfold runD at h
      cases hb : denB (callK P k) d.b (ds.map some ++ List.replicate (d.N.length - ds.length) none) s1 with
      | nx env s2 => rw [hb] at h; exact fun m' H' σ' x hr' er' => h m' H' _ x hr' .non
      | rt v s2 => rw [hb] at h; exact fun m' H' v x hr' rv' => h m' H' v x hr' rv'
      | ex c env s2 => rw [hb] at h; exact fun m' H' σ' x hr' er' => h m' H' x hr'
      | bk env s2 => rw [hb] at h; exact h.elim
      | ct env s2 => rw [hb] at h; exact h.elim
      | no => rw [hb] at h; exact h.elim
/-- the script as it lies -/
theorem rd_script {H : Hp} {a : Addr} {ns : List Int} (hO : Only H) (h : SqL K H a (ns.map V.int)) : RD K [] H (.ref a) (.rol (ns.map D.int)) := by
  refine .rol (vs := ns.map V.int) ?_ ?_
  · rcases h with (h | h) | h
    · rcases hO a with q | ⟨o, xs, q⟩ <;> rw [q] at h <;> cases h
    · exact .inl h
    · exact .inr h
  · clear h
    induction ns with
    | nil => exact .nil
    | cons x r ih => exact .cons (.int x) ih
theorem hr_nil {ca : Nat → Addr} {H : Hp} : HR K ca [] [] H := ⟨rfl, List.nodup_nil, fun n a o h => by simp at h⟩
/-- the law's own promise -/
def spL (K : PySem.W.Frag) (ad : Ad) (n : Nat) (c : List D → S → R D) : Sp := fun vs H Q E => SpD K ad 1 c vs H Q E
theorem spL_of {H : Hp} {a : Addr} {ns : List Int} {c : List D → S → R D} (hO : Only H) (hS : SqL K H a (ns.map V.int)) (h : ∃ s, c [.rol (ns.map D.int)] [] = .ok (.bl true) s) : SpD K ad 1 c [.ref a] H (fun v _ => v = .bl true) fun _ _ _ => False := by
  obtain ⟨s, h⟩ := h
  refine ⟨rfl, [], [], _, hr_nil, .cons (rd_script hO hS) .nil, ?_⟩
  rw [h]
  intro m' H' v x hr rv
  cases rv
  rfl
end
end T
set_option Elab.async false
set_option linter.all false
set_option maxRecDepth 100000
set_option maxHeartbeats 4000000
/-! TLp: the end. -/
namespace T
open PySem PySem.Spec L2
open PyProof.Rows hiding St
def plainPs (a : Arguments) (ps : List Str) : Bool :=
  a.posonlyargs.isEmpty && a.kwonlyargs.isEmpty && a.vararg.isNone && a.kwarg.isNone && a.defaults.isEmpty && (a.args.map (·.arg) == ps) && decide ps.Nodup
theorem zip_look {us : List Value} : ∀ {ps : List Str}, us.length = ps.length → ∀ n ∈ ps, ((ps.zip us).lookup n).isSome = true := by
  induction us with
  | nil => intro ps h n hn; cases ps with
    | nil => cases hn
    | cons _ _ => cases h
  | cons u us ih =>
    intro ps h n hn
    cases ps with
    | nil => cases hn
    | cons p ps =>
      rw [List.zip_cons_cons, List.lookup_cons]
      cases e : (n == p) with
      | true => rfl
      | false =>
        rcases List.mem_cons.mp hn with rfl | hn
        · simp at e
        · exact ih (by simpa using h) n hn
theorem filterMap_eq {α β : Type} {f g : α → Option β} : ∀ {l : List α}, (∀ x ∈ l, f x = g x) → l.filterMap f = l.filterMap g
  | [], _ => rfl
  | a :: l, h => by
    rw [List.filterMap_cons, List.filterMap_cons, h a List.mem_cons_self, filterMap_eq fun x hx => h x (List.mem_cons_of_mem _ hx)]
theorem zip_self {us : List Value} : ∀ {ps : List Str}, ps.Nodup → us.length = ps.length → (ps.filterMap fun n => ((ps.zip us).lookup n).map (n, ·)) = ps.zip us := by
  induction us with
  | nil => intro ps _ h; cases ps with
    | nil => rfl
    | cons _ _ => cases h
  | cons u us ih =>
    intro ps nd h
    cases ps with
    | nil => cases h
    | cons p ps =>
      have nd2 := List.nodup_cons.mp nd
      rw [List.zip_cons_cons, List.filterMap_cons]
      have e1 : List.lookup p ((p, u) :: ps.zip us) = some u := by simp
      rw [e1]
      simp only [Option.map_some]
      have hz := ih nd2.2 (ps := ps) (by simpa using h)
      refine congrArg _ (Eq.trans ?_ hz)
      refine filterMap_eq fun n hn => ?_
      rw [List.lookup_cons]
      cases e : (n == p) with
      | true => rw [beq_iff_eq] at e; subst e; exact absurd hn nd2.1
      | false => rfl
theorem bind_plain {x q : Str} {params : Arguments} {body : List Stmt} {scope : Scope} {kV doc pm : Value} {an : Option Addr} {cdv ct : Value} {ps : List Str} {us : List Value} (h : plainPs params ps = true) (hl : us.length = ps.length) :
    bindArgs (PySem.W.fnOf x q params body scope .none kV doc pm an cdv ct) ⟨us, []⟩ = pure (ps.zip us) := by
  unfold plainPs at h
  simp only [Bool.and_eq_true, List.isEmpty_iff, Option.isNone_iff_eq_none, beq_iff_eq, decide_eq_true_eq] at h
  obtain ⟨⟨⟨⟨⟨⟨h1, h2⟩, h3⟩, h4⟩, h5⟩, h6⟩, nd⟩ := h
  cases params with
  | mk po args va ko kd ka df =>
  simp only at h1 h2 h3 h4 h5 h6
  subst h1 h2 h3 h4 h5 h6
  have hs : (seqItems? Value.none) = pure none := rfl
  unfold bindArgs
  simp only [PySem.W.fnOf, List.map_nil, List.nil_append, List.append_nil]
  rw [hs]
  simp only [List.forIn_nil, pure_bind, Option.getD_none, List.length_nil]
  generalize (List.map (fun x => x.arg) args) = ps at *
  have hm : (ps.filter fun n => ((ps.zip us).lookup n).isNone) = [] := by
    rw [List.filter_eq_nil_iff]
    intro n hn
    have := zip_look hl n hn
    cases e : (ps.zip us).lookup n with
    | none => rw [e] at this; cases this
    | some _ => simp
  have hz := zip_self nd hl
  simp [hm, hz, hl]
/-! ### the facts of the top -/
def excOk (T : Tab) : Bool := (T.excs.all fun p => nmX T p.1 == p.2) && T.clss.all fun p => nmC T p.1 == p.2 && decide (p.1 < 1000)
theorem exC_ok {K : PySem.W.Frag} {D : Addr} (h : exC K D = true) : ExcC K D := by
  unfold exC at h
  simp only [Bool.and_eq_true, decide_eq_true_eq] at h
  obtain ⟨⟨⟨⟨⟨⟨⟨h1, h2⟩, h3⟩, h4⟩, h5⟩, h6⟩, h7⟩, h8⟩ := h
  exact ⟨h1, h2, h3, h4, h5, h6, h7, h8⟩
theorem clB_ok {K : PySem.W.Frag} {C : Addr} (h : clB K C = true) : Cls K C := by
  unfold clB at h
  simp only [Bool.and_eq_true, decide_eq_true_eq] at h
  exact ⟨h.1.1.1, h.1.1.2, h.1.2, h.2⟩
def plainAll (P : List (Nat × Df)) (ST : List Stmt) : Bool := (P.zip ST).all fun p => plainPs (defArgs p.2) p.1.2.ps
/-- no number twice -/
def numOk (P : List (Nat × Df)) : Bool := P.all fun p => match P.lookup p.1 with
  | some d => decide (d.at_ = p.2.at_) && decide (d.ps.length = p.2.ps.length)
  | none => false
/-! ### the hook -/
section
variable {P : List (Nat × Df)} {ST : List Stmt} {T : Tab} {K : PySem.W.Frag} {h : Heap} {mg : Str → Option Value}
theorem says_fact {fa : List He.Fa} {fn : List He.DefD} (c : He.SaysD fa fn K) {f : He.Fa} (hm : f ∈ fa) : f.ok K = true := by
  obtain ⟨i, hi⟩ := List.getElem?_of_mem hm
  exact c.fact i hi
theorem lookup_mem' {j : Nat} {d : Df} : ∀ {P : List (Nat × Df)}, (j, d) ∈ P → ∃ d', P.lookup j = some d'
  | [], h => by cases h
  | (i, e) :: P, h => by
    rw [List.lookup_cons]
    cases hb : (j == i) with
    | true => exact ⟨e, rfl⟩
    | false =>
      rcases List.mem_cons.mp h with h | h
      · cases h; simp at hb
      · exact lookup_mem' h
theorem adX_c {c : Nat} (h : c < 1000) : (adX K T).ca c = He.ga K (nmC T c) := if_pos h
theorem isL_of {d : Nat} (h : isCl T d = true) : d ∈ isL T := by
  unfold isCl at h
  rw [Bool.or_eq_true, beq_iff_eq, List.any_eq_true] at h
  rcases h with rfl | ⟨p, h1, h2⟩
  · exact List.mem_cons_self
  · rw [beq_iff_eq] at h2
    exact List.mem_cons_of_mem _ (List.mem_map.mpr ⟨p, h1, h2⟩)
theorem tops_of (X : K.In h) (G : h.Ns mainGlobals mg) (c : He.SaysD (faL P T) (fnL P ST) K) (hp : plainAll P ST = true) (hx : excOk T = true) (hn : numOk P = true) (he : exB T P K = true) : Tops K mg P ST T (adX K T) := by
  unfold excOk at hx
  rw [Bool.and_eq_true] at hx
  unfold exB at he
  simp only [Bool.and_eq_true] at he
  obtain ⟨⟨⟨⟨⟨⟨e1, e2⟩, e3⟩, e4⟩, e5⟩, e7⟩, e6⟩ := he
  have nmE : ∀ p ∈ T.excs, nmX T p.1 = p.2 := fun p h => by simpa using List.all_eq_true.mp hx.1 p h
  have nmK : ∀ p ∈ T.clss, nmC T p.1 = p.2 ∧ p.1 < 1000 := fun p h => by simpa using List.all_eq_true.mp hx.2 p h
  have inX : ∀ f ∈ faX T, f ∈ faL P T := fun f h => List.mem_append_right _ (List.mem_append_right _ (List.mem_append_right _ h))
  have cl : ∀ q ∈ T.meths, ∃ d, P.lookup q.2.2.1 = some d ∧ q.1 < 1000 ∧ q.2.2.2 = d.ps.length ∧ Cls K (He.ga K (nmC T q.1)) ∧ PySem.W.findIn K (.ref (He.ga K (nmC T q.1))) q.2.1 = some (some (.ref (He.fAd K d.at_))) ∧ PySem.W.isFn K (.ref (He.fAd K d.at_)) = true := fun q hq => by
    have := List.all_eq_true.mp e5 q hq
    split at this
    · rename_i d hd
      simp only [Bool.and_eq_true, decide_eq_true_eq] at this
      obtain ⟨⟨⟨⟨h1, h2⟩, h3⟩, h4⟩, h5⟩ := this
      exact ⟨d, hd, h1, h2, clB_ok h3, h4, h5⟩
    · cases this
  have ci : ∀ q ∈ T.inis, ∃ d, P.lookup q.2.2.1 = some d ∧ q.1 < 1000 ∧ q.2.2.2 = d.ps.length ∧ nmC T q.1 = q.2.1 ∧ PySem.W.nsIn K mainGlobals q.2.1 = some (some (.ref (He.ga K q.2.1))) ∧ PySem.W.keepIn K (.ref (He.ga K q.2.1)) = true ∧ PySem.W.readsIn K (He.ga K q.2.1) (.type "type") = true ∧
      PySem.W.specialIn K (.ref (He.ga K q.2.1)) "__getattribute__" = some (some (.builtin "type.__getattribute__")) ∧ PySem.W.findCls K (.ref (He.ga K q.2.1)) (.type "type") "__init__" = some (.val (.ref (He.fAd K d.at_))) := fun q hq => by
    have := List.all_eq_true.mp e7 q hq
    split at this
    · rename_i d hd
      simp only [Bool.and_eq_true, decide_eq_true_eq, beq_iff_eq] at this
      obtain ⟨⟨⟨⟨⟨⟨⟨h1, h2⟩, h3⟩, h4⟩, h5⟩, h6⟩, h7⟩, h8⟩ := this
      split at h8
      · rename_i v hv
        rw [beq_iff_eq] at h8
        subst h8
        exact ⟨d, hd, h1, h2, h3, h4, h5, h6, h7, hv⟩
      · cases h8
    · cases this
  have num : ∀ {j : Nat} {d d' : Df}, (j, d) ∈ P → P.lookup j = some d' → d'.at_ = d.at_ ∧ d'.ps.length = d.ps.length := fun {j d d'} h1 h2 => by
    have := List.all_eq_true.mp hn (j, d) h1
    dsimp only at this
    rw [h2] at this
    simpa using this
  refine ⟨fun i j d st h1 h2 => ?_, fun x hx => ?_, fun p hx => ?_, fun p hx => ?_, fun p hx => ?_, fun c => ?_, ⟨fun d hd => ?_, fun d hd => ?_, fun c hc d hd => ?_⟩, fun p hp => ?_, fun q hq => ?_, fun q hq => ?_⟩
  · have hz : (P.zip ST)[i]? = some ((j, d), st) := by rw [List.getElem?_zip_eq_some]; exact ⟨h1, h2⟩
    have hf : (fnL P ST)[i]? = some (mkD d st) := by unfold fnL; rw [List.getElem?_map, hz]; rfl
    obtain ⟨fd, F⟩ := c.def_ i hf
    have hm : (j, d) ∈ P := List.mem_of_getElem? h1
    refine ⟨_, fd, fun hg => ?_, F, ?_, ?_, fun c m np hq => ?_, fun c np x hq hx => ?_, fun c x np hq => ?_⟩
    · have e : d.gn = d.nm ∧ d.at_ = (d.nm, none) := by
        unfold Df.gn at hg ⊢
        unfold Df.at_
        split
        · exact ⟨rfl, rfl⟩
        · rename_i hh; rw [if_neg hh] at hg; exact absurd rfl hg
      have q := He.glo_ok X G (says_fact c (List.mem_append_left _ (List.mem_map.mpr ⟨(j, d), List.mem_filter.mpr ⟨hm, by simpa using hg⟩, rfl⟩)))
      rw [q]
      show some (Value.ref (He.ga K d.gn)) = some (Value.ref (He.fAd K d.at_))
      rw [e.1, e.2]
      rfl
    · have hq := List.all_eq_true.mp hp _ (List.mem_of_getElem? hz)
      exact F.bindsN fun kV doc pm an cdv ct us hl => bind_plain hq hl
    · have hq := List.all_eq_true.mp hp _ (List.mem_of_getElem? hz)
      exact fun s us hl => F.bindsA (fun kV doc pm an cdv ct us hl => bind_plain hq hl) s us hl
    · obtain ⟨d', g1, g2, g3, g4, g5, g6⟩ := cl _ hq
      obtain ⟨n1, n2⟩ := num hm g1
      dsimp only at g2 g3 g4 g5 g6
      rw [adX_c g2]
      rw [n1] at g5 g6
      exact ⟨by rw [g3, n2], g4, g5, g6, F.kp⟩
    · obtain ⟨d', g1, g2, g3, g4, g5, g6⟩ := cl _ hq
      obtain ⟨n1, n2⟩ := num hm g1
      dsimp only at g2 g3 g4 g5 g6
      have e := (nmK _ hx).1
      dsimp only at e
      have q := List.all_eq_true.mp e6 _ hx
      simp only [Bool.and_eq_true, decide_eq_true_eq] at q
      rw [adX_c g2]
      rw [n1] at g5 g6
      rw [e] at g5 ⊢
      exact ⟨PySem.W.mg_of X G q.1.1, q.1.2, g5, g6, q.2⟩
    · obtain ⟨d', g1, g2, g3, g4, g5, g6, g7, g8, g9⟩ := ci _ hq
      obtain ⟨n1, n2⟩ := num hm g1
      dsimp only at g2 g3 g4 g5 g6 g7 g8 g9
      rw [adX_c g2, g4]
      rw [n1] at g9
      exact ⟨by rw [g3, n2], PySem.W.mg_of X G g5, g7, g8, g9⟩
  · exact He.free_ok X G (says_fact c (List.mem_append_right _ (List.mem_append_left _ (List.mem_map.mpr ⟨x, hx, rfl⟩))))
  · have hq := says_fact c (List.mem_append_right _ (List.mem_append_right _ (List.mem_append_left _ (List.mem_map.mpr ⟨p, hx, rfl⟩))))
    obtain ⟨x, v⟩ := p
    cases v with
    | int i => obtain ⟨t, e⟩ := He.int_ok X G hq; exact ⟨_, e, ⟨t, rfl⟩⟩
    | str i => obtain ⟨t, e⟩ := He.str_ok X G hq; exact ⟨_, e, ⟨t, rfl⟩⟩
  · have h1 := says_fact c (inX (.glo p.2) (List.mem_append_left _ (List.mem_map.mpr ⟨p, hx, rfl⟩)))
    have h2 := says_fact c (inX (.exc p.2) (List.mem_append_right _ (List.mem_append_left _ (List.mem_map.mpr ⟨p, hx, rfl⟩))))
    have e : (adX K T).ea p.1 = He.ga K p.2 := by show He.ga K (nmX T p.1) = _; rw [nmE p hx]
    rw [e]
    exact ⟨He.glo_ok X G h1, He.exc_ok h2⟩
  · exact He.exm_ok (says_fact c (inX _ (List.mem_append_right _ (List.mem_append_right _ (List.mem_map.mpr ⟨p, hx, rfl⟩)))))
  · show (if 1000 + c < 1000 then _ else _) = _
    rw [if_neg (by omega), Nat.add_sub_cancel_left]
    rfl
  · rw [List.any_eq_true] at hd
    obtain ⟨p, h1, h2⟩ := hd
    rw [beq_iff_eq] at h2
    have q := List.all_eq_true.mp e1 p h1
    show ExcC K (He.ga K (nmX T d))
    rw [← h2, nmE p h1]
    exact exC_ok q
  · simpa using List.all_eq_true.mp e2 d (isL_of hd)
  · rw [List.any_eq_true] at hc
    obtain ⟨p, h1, h2⟩ := hc
    rw [beq_iff_eq] at h2
    have q := List.all_eq_true.mp (List.all_eq_true.mp e3 p h1) d (isL_of hd)
    rw [decide_eq_true_eq] at q
    show PySem.W.kitOne K (.ref (He.ga K (nmX T c))) _ = _
    rw [← h2, nmE p h1]
    exact q
  · have q := List.all_eq_true.mp e4 p hp
    simp only [Bool.and_eq_true, decide_eq_true_eq] at q
    rw [adX_c q.1.1]
    exact ⟨clB_ok q.1.2, q.2⟩
  · obtain ⟨d, hd, _⟩ := cl q hq
    exact ⟨d, hd⟩
  · obtain ⟨d, hd, _⟩ := ci q hq
    exact ⟨d, hd⟩
end
/-- what the law's own call asks of the mathematics -/
def LawM (P : List (Nat × Df)) (kk jl : Nat) : Prop := ∀ ns : List Int, ns.length ≤ 63 → ∃ s, callK P kk jl [.rol (ns.map D.int)] [] = .ok (.bl true) s
theorem law_at {l : PySem.W.OpenLaw} {q : Program} {loose : List Str} {XP : (Str → Option Value) → Heap → Prop} {dr : DefRec} {P : List (Nat × Df)} {ST : List Stmt} {T : Tab} {nh kk jl : Nat} {dl : Df}
    (hn : l.most = some 63) (hdf : dr.params.defaults = []) (hnm : dr.name = ("law" : Str)) (hr : Room (2 * kk) callerA)
    (hjl : P.lookup jl = some dl) (hdn : dl.gn = ("law" : Str)) (hdp : dl.ps = [("script" : Str)])
    (hT : T.defs = P.map fun d => (d.1, d.2.gn, d.2.ps.length)) (hC : allChk T P ST = true) (hP : plainAll P ST = true) (hX : excOk T = true) (hnu : numOk P = true) (M : LawM P kk jl) :
    PySem.W.WalkO q loose XP (hookY nh (faL P T) (fnL P ST) (exB T P)).says l.row.toRowW dr [] (fun f vs => PySem.call f vs) := by
  refine Att.attach_callB hn hdf fun wd sA sB mg mb fA ob pm cd doc aS vs ns Gr Y ho hd hcd hmg hobj hints hlen hbits hgs => ?_
  obtain ⟨K, KX, c, he⟩ := Y
  have tp := tops_of KX Gr.T.g c hP hX hnu he
  obtain ⟨f, fd, h1, h2, h3, h3a, h4, _⟩ := all_ok (Pg := l.prog) (w := wd) (ad := adX K T) hT hC tp kk jl dl hjl
  have h1 := h1 (by rw [hdn]; decide)
  rw [hdn] at h1
  rw [hnm] at hmg
  have ef : f = fA := by
    have e := hmg.symm.trans h1
    cases e; rfl
  subst ef
  rw [hdp] at h3 h4 h3a
  refine law_call (CX := L2.CX l.prog wd) KX Gr.T.g Gr.T.b Gr.T.builtins Gr.T.nolimit hgs hobj hints (Nat.le_trans hlen (by decide)) hr (fun base _ _ => h4 base) (fun s u => h3a s [u] rfl) (fun H hO hS => spL_of hO hS (M ns hlen)) fun H e s' hx => ?_
  obtain ⟨_, _, _, _, _, _, _, _, _, _, _, _, z⟩ := hx
  exact z
end T
set_option Elab.async false
set_option linter.all false
set_option maxRecDepth 100000
set_option maxHeartbeats 2000000
/-! TLq: rules to run terms by. What stands behind (the continuation) is a named thing, looked at when it is reached. -/
namespace T
open PySem PySem.Spec L2
open PyProof.Rows hiding St
/-- the other ways out of a block -/
structure Xs where
  rt : D → S → Prop
  bk : Env → S → Prop
  ct : Env → S → Prop
  ex : Nat → Env → S → Prop
section
variable {α β : Type}
/-- it comes to an end, with Q of the value and the store; X of what it raises -/
def Ok (r : R α) (Q : α → S → Prop) (X : Nat → S → Prop) : Prop := match r with
  | .ok a s => Q a s
  | .ex c s => X c s
  | .no => False
def OkS (r : SR) (N : Env → S → Prop) (x : Xs) : Prop := match r with
  | .nx e s => N e s
  | .rt d s => x.rt d s
  | .bk e s => x.bk e s
  | .ct e s => x.ct e s
  | .ex c e s => x.ex c e s
  | .no => False
/-- of a comprehension's loop -/
def OkC (r : R (List D)) (Q : List D → S → Prop) : Prop := match r with
  | .ok a s => Q a s
  | _ => False
variable {F : Fn} {Q Q' : α → S → Prop} {X X' : Nat → S → Prop} {N N' : Env → S → Prop} {x y : Xs} {e env : Env} {s : S}
theorem Ok_ok {a : α} : Ok (.ok a s) Q X = Q a s := rfl
theorem kw_num_text : (("num" : Str) == ("text" : Str)) = false := by decide
theorem kw_num_row : (("num" : Str) == ("row" : Str)) = false := by decide
theorem kw_num_rec : (("num" : Str) == ("rec" : Str)) = false := by decide
theorem kw_num_pick : (("num" : Str) == ("pick" : Str)) = false := by decide
theorem kw_text_num : (("text" : Str) == ("num" : Str)) = false := by decide
theorem kw_text_row : (("text" : Str) == ("row" : Str)) = false := by decide
theorem kw_text_rec : (("text" : Str) == ("rec" : Str)) = false := by decide
theorem kw_text_pick : (("text" : Str) == ("pick" : Str)) = false := by decide
theorem kw_row_num : (("row" : Str) == ("num" : Str)) = false := by decide
theorem kw_row_text : (("row" : Str) == ("text" : Str)) = false := by decide
theorem kw_row_rec : (("row" : Str) == ("rec" : Str)) = false := by decide
theorem kw_row_pick : (("row" : Str) == ("pick" : Str)) = false := by decide
theorem kw_rec_num : (("rec" : Str) == ("num" : Str)) = false := by decide
theorem kw_rec_text : (("rec" : Str) == ("text" : Str)) = false := by decide
theorem kw_rec_row : (("rec" : Str) == ("row" : Str)) = false := by decide
theorem kw_rec_pick : (("rec" : Str) == ("pick" : Str)) = false := by decide
theorem kw_pick_num : (("pick" : Str) == ("num" : Str)) = false := by decide
theorem kw_pick_text : (("pick" : Str) == ("text" : Str)) = false := by decide
theorem kw_pick_row : (("pick" : Str) == ("row" : Str)) = false := by decide
theorem kw_pick_rec : (("pick" : Str) == ("rec" : Str)) = false := by decide
theorem Ok_ex {c : Nat} : Ok (.ex c s) Q X = X c s := rfl
theorem Ok_bind {r : R β} {f : β → S → R α} : Ok (r.bind f) Q X = Ok r (fun a s => Ok (f a s) Q X) X := by cases r <;> rfl
theorem Ok.imp {r : R α} (h : Ok r Q X) (hq : ∀ a s, Q a s → Q' a s) (hx : ∀ c s, X c s → X' c s) : Ok r Q' X' := by
  cases r with
  | ok a s => exact hq _ _ h
  | ex c s => exact hx _ _ h
  | no => exact h
theorem Ok.elim {r : R α} (h : Ok r Q fun _ _ => False) : ∃ a s, r = .ok a s ∧ Q a s := by
  cases r with
  | ok a s => exact ⟨a, s, rfl, h⟩
  | ex c s => exact False.elim h
  | no => exact False.elim h
theorem OkS_nx : OkS (.nx e s) N x = N e s := rfl
theorem OkS_rt {d : D} : OkS (.rt d s) N x = x.rt d s := rfl
theorem OkS_bind {r : SR} {f : Env → S → SR} : OkS (r.bind f) N x = OkS r (fun e s => OkS (f e s) N x) x := by cases r <;> rfl
def kX (x : Xs) (env : Env) : Nat → S → Prop := fun c s => x.ex c env s
theorem kX_app {c : Nat} : kX x env c s = x.ex c env s := rfl
theorem OkS_st {r : R α} {f : α → S → SR} : OkS (r.st env f) N x = Ok r (fun a s => OkS (f a s) N x) (kX x env) := by cases r <;> rfl
theorem OkS.imp {r : SR} (h : OkS r N x) (hn : ∀ e s, N e s → N' e s) (hr : ∀ a s, x.rt a s → y.rt a s) (hb : ∀ e s, x.bk e s → y.bk e s) (hc : ∀ e s, x.ct e s → y.ct e s) (hx : ∀ c e s, x.ex c e s → y.ex c e s) : OkS r N' y := by
  cases r with
  | nx e s => exact hn _ _ h
  | rt e s => exact hr _ _ h
  | bk e s => exact hb _ _ h
  | ct e s => exact hc _ _ h
  | ex c e s => exact hx _ _ _ h
  | no => exact h
end
/-! ### what stands behind -/
section
variable {F : Fn} {Q : D → S → Prop} {X : Nat → S → Prop} {N : Env → S → Prop} {x : Xs} {e env : Env} {s : S}
def kN (Q : D → S → Prop) : Env → S → Prop := fun _ s => Q .non s
def xR (Q : D → S → Prop) (X : Nat → S → Prop) : Xs := ⟨Q, fun _ _ => False, fun _ _ => False, fun c _ s => X c s⟩
theorem kN_app : kN Q e s = Q .non s := rfl
theorem xR_rt {d : D} : (xR Q X).rt d s = Q d s := rfl
theorem xR_ex {c : Nat} : (xR Q X).ex c e s = X c s := rfl
theorem Ok_endR {r : SR} : Ok (endR r) Q X = OkS r (kN Q) (xR Q X) := by cases r <;> rfl
theorem Ok_call {P : List (Nat × Df)} {k j : Nat} {d : Df} {args : List D} (h : P.lookup j = some d) : Ok (callK P (k + 1) j args s) Q X = OkS (denB (callK P k) d.b (args.map some ++ List.replicate (d.N.length - args.length) none) s) (kN Q) (xR Q X) := by
  rw [callK_succ h]; unfold runD; rw [Ok_endR]
/-! blocks -/
def kB (F : Fn) (b : B) (N : Env → S → Prop) (x : Xs) : Env → S → Prop := fun e s => OkS (denB F b e s) N x
theorem kB_app {b : B} : kB F b N x e s = OkS (denB F b e s) N x := rfl
theorem B_nil : OkS (denB F .nil e s) N x = N e s := by simp only [denB]; rfl
theorem B_cons {c : C} {b : B} : OkS (denB F (.cons c b) e s) N x = OkS (denS F c e s) (kB F b N x) x := by simp only [denB, OkS_bind]; rfl
def kSet (i : Nat) (e : Env) (N : Env → S → Prop) : D → S → Prop := fun d s => N (e.set i (some d)) s
theorem kSet_app {i : Nat} {d : D} : kSet i e N d s = N (e.set i (some d)) s := rfl
theorem S_set {i : Nat} {a : E} : OkS (denS F (.set i a) e s) N x = Ok (denE F a e s) (kSet i e N) (kX x e) := by simp only [denS, OkS_st]; rfl
theorem S_setc {i : Nat} {own : List (Str × Nat)} {tg : Tg} {w : Wa} {c : Co} {a : E} : OkS (denS F (.setc i own tg w c a) e s) N x = Ok (denE F (.lc own tg w c a) e s) (kSet i e N) (kX x e) := by simp only [denS, OkS_st]; rfl
def kAsg (tg : Tg) (e : Env) (N : Env → S → Prop) : D → S → Prop := fun d s => match denG tg d e with | some e1 => N e1 s | none => False
theorem kAsg_app {tg : Tg} {d : D} {e1 : Env} (h : denG tg d e = some e1) : kAsg tg e N d s = N e1 s := by unfold kAsg; rw [h]
theorem kAsg_2 {i j : Nat} {a b : D} : kAsg (.tp (.cons (.nm i) (.cons (.nm j) .nil))) e N (.tup [a, b]) s = N ((e.set i (some a)).set j (some b)) s := rfl
theorem kAsg_3 {i j k : Nat} {a b c : D} : kAsg (.tp (.cons (.nm i) (.cons (.nm j) (.cons (.nm k) .nil)))) e N (.tup [a, b, c]) s = N (((e.set i (some a)).set j (some b)).set k (some c)) s := rfl
theorem kAsg_4 {i j k l : Nat} {a b c d : D} : kAsg (.tp (.cons (.nm i) (.cons (.nm j) (.cons (.nm k) (.cons (.nm l) .nil))))) e N (.tup [a, b, c, d]) s = N ((((e.set i (some a)).set j (some b)).set k (some c)).set l (some d)) s := rfl
theorem S_asg {tg : Tg} {a : E} : OkS (denS F (.asg tg a) e s) N x = Ok (denE F a e s) (kAsg tg e N) (kX x e) := by
  simp only [denS, OkS_st]; congr 1; funext d s; unfold kAsg; cases denG tg d e <;> rfl
def kSub1 (F : Fn) (o i : E) (e : Env) (N : Env → S → Prop) (x : Xs) : D → S → Prop := fun d s => Ok (denE F o e s) (fun a s2 => Ok (denE F i e s2) (fun k s3 => match setAt s3 a k d with | some s4 => N e s4 | none => False) (kX x e)) (kX x e)
def kSub2 (F : Fn) (i : E) (d : D) (e : Env) (N : Env → S → Prop) (x : Xs) : D → S → Prop := fun a s2 => Ok (denE F i e s2) (fun k s3 => match setAt s3 a k d with | some s4 => N e s4 | none => False) (kX x e)
def kSub3 (d a : D) (e : Env) (N : Env → S → Prop) : D → S → Prop := fun k s3 => match setAt s3 a k d with | some s4 => N e s4 | none => False
theorem S_sub {o i a : E} : OkS (denS F (.sub o i a) e s) N x = Ok (denE F a e s) (kSub1 F o i e N x) (kX x e) := by
  simp only [denS, OkS_st]; congr 1; funext d s; unfold kSub1; congr 1; funext a s2; congr 1; funext k s3; cases setAt s3 a k d <;> rfl
theorem kSub1_app {o i : E} {d : D} : kSub1 F o i e N x d s = Ok (denE F o e s) (kSub2 F i d e N x) (kX x e) := rfl
theorem kSub2_app {i : E} {d a : D} : kSub2 F i d e N x a s = Ok (denE F i e s) (kSub3 d a e N) (kX x e) := rfl
theorem kSub3_app {d a k : D} {s4 : S} (h : setAt s a k d = some s4) : kSub3 d a e N k s = N e s4 := by unfold kSub3; rw [h]
def kExp (e : Env) (N : Env → S → Prop) : D → S → Prop := fun _ s => N e s
theorem kExp_app {d : D} : kExp e N d s = N e s := rfl
theorem S_exp {a : E} : OkS (denS F (.exp a) e s) N x = Ok (denE F a e s) (kExp e N) (kX x e) := by simp only [denS, OkS_st]; rfl
theorem S_ret {a : E} : OkS (denS F (.ret a) e s) N x = Ok (denE F a e s) x.rt (kX x e) := by simp only [denS, OkS_st]; rfl
theorem S_retn : OkS (denS F .retn e s) N x = x.rt .non s := by simp only [denS]; rfl
theorem S_pas : OkS (denS F .pas e s) N x = N e s := by simp only [denS]; rfl
theorem S_brk : OkS (denS F .brk e s) N x = x.bk e s := by simp only [denS]; rfl
theorem S_cnt : OkS (denS F .cnt e s) N x = x.ct e s := by simp only [denS]; rfl
def kIf (F : Fn) (a b : B) (e : Env) (N : Env → S → Prop) (x : Xs) : Bool → S → Prop := fun k s => OkS (if k then denB F a e s else denB F b e s) N x
theorem kIf_true {a b : B} : kIf F a b e N x true s = OkS (denB F a e s) N x := rfl
theorem kIf_false {a b : B} : kIf F a b e N x false s = OkS (denB F b e s) N x := rfl
theorem S_ife {c : Te} {a b : B} : OkS (denS F (.ife c a b) e s) N x = Ok (denT F c e s) (kIf F a b e N x) (kX x e) := by simp only [denS, OkS_st]; rfl
theorem kIf_split {a b : B} {k : Bool} (h1 : k = true → OkS (denB F a e s) N x) (h2 : k = false → OkS (denB F b e s) N x) : kIf F a b e N x k s := by
  cases k with
  | true => exact h1 rfl
  | false => exact h2 rfl
theorem kIf_mid {a b : B} {k : Bool} (P : Env → S → Prop) (h1 : kIf F a b e P x k s) (h2 : ∀ e s, P e s → N e s) : kIf F a b e N x k s :=
  OkS.imp h1 h2 (fun _ _ h => h) (fun _ _ h => h) (fun _ _ h => h) fun _ _ _ h => h
def kFor (F : Fn) (tg : Tg) (b : B) (e : Env) (N : Env → S → Prop) (x : Xs) : List D × Gs → S → Prop := fun p s => OkS (loopF p.2 (denG tg) (denB F b) p.1 e s) N x
theorem kFor_app {tg : Tg} {b : B} {ds : List D} {gs : Gs} : kFor F tg b e N x (ds, gs) s = OkS (loopF gs (denG tg) (denB F b) ds e s) N x := rfl
theorem S_for {tg : Tg} {w : Wa} {b : B} : OkS (denS F (.for_ tg w b) e s) N x = Ok (denW F w e s) (kFor F tg b e N x) (kX x e) := by simp only [denS, OkS_st]; rfl
def kAug (i : Nat) (o : BOp) (a : D) (e : Env) (N : Env → S → Prop) : D → S → Prop := fun d s => match aug2 o a d with | some r => N (e.set i (some r)) s | none => False
def kAugE (F : Fn) (i : Nat) (o : BOp) (a : E) (e : Env) (N : Env → S → Prop) (x : Xs) (s : S) : Option (Option D) → Prop
  | some (some d) => Ok (denE F a e s) (kAug i o d e N) (kX x e)
  | _ => False
theorem S_aug {i : Nat} {o : BOp} {a : E} : OkS (denS F (.aug i o a) e s) N x = kAugE F i o a e N x s e[i]? := by
  simp only [denS]
  cases e[i]? with
  | none => rfl
  | some d => cases d with
    | none => rfl
    | some d =>
      simp only [OkS_st]
      show _ = Ok _ _ _
      congr 1; funext d2 s2; unfold kAug; cases aug2 o d d2 <;> rfl
theorem kAugE_app {i : Nat} {o : BOp} {a : E} {d : D} : kAugE F i o a e N x s (some (some d)) = Ok (denE F a e s) (kAug i o d e N) (kX x e) := rfl
theorem kAug_add {i : Nat} {a b : Int} : kAug i .add (.int a) e N (.int b) s = N (e.set i (some (.int (a + b)))) s := rfl
theorem kAug_sub {i : Nat} {a b : Int} : kAug i .sub (.int a) e N (.int b) s = N (e.set i (some (.int (a - b)))) s := rfl
theorem S_raise {c : Nat} : OkS (denS F (.raise c) e s) N x = x.ex c e s := by simp only [denS]; rfl
def trX (F : Fn) (c : Nat) (cs : List Nat) (h : B) (N : Env → S → Prop) (x : Xs) : Xs := ⟨x.rt, x.bk, x.ct, fun c' e s => if cs.contains c' then (if subX c' c then OkS (denB F h e s) N x else x.ex c' e s) else False⟩
theorem trX_rt {F : Fn} {c : Nat} {cs : List Nat} {h : B} {N : Env → S → Prop} {x : Xs} : (trX F c cs h N x).rt = x.rt := rfl
theorem trX_ex {F : Fn} {c c' : Nat} {cs : List Nat} {h : B} {e : Env} {s : S} {N : Env → S → Prop} {x : Xs} (h1 : cs.contains c' = true) (h2 : subX c' c = true) : (trX F c cs h N x).ex c' e s = OkS (denB F h e s) N x := by
  show (if cs.contains c' then (if subX c' c then OkS (denB F h e s) N x else x.ex c' e s) else False) = _
  rw [if_pos h1, if_pos h2]
theorem S_tryc {b h : B} {c : Nat} {cs : List Nat} : OkS (denS F (.tryc b c cs h) e s) N x = OkS (denB F b e s) N (trX F c cs h N x) := by
  simp only [denS]
  cases denB F b e s with
  | ex c' e' s' =>
    show OkS (if cs.contains c' then (if subX c' c then denB F h e' s' else .ex c' e' s') else .no) N x = (if cs.contains c' then (if subX c' c then OkS (denB F h e' s') N x else x.ex c' e' s') else False)
    split <;> try split
    all_goals rfl
  | _ => rfl
/-- a new object -/
def Al (o : O) (Q : D → S → Prop) (s : S) : Prop := Q (.ref s.length) (s ++ [o])
/-- behind a handler with a name -/
def kUn (n : Nat) (N : Env → S → Prop) : Env → S → Prop := fun e s => N (e.set n none) s
theorem kUn_app {n : Nat} : kUn n N e s = N (e.set n none) s := rfl
def xUn (n : Nat) (x : Xs) : Xs := ⟨x.rt, fun e s => x.bk (e.set n none) s, fun e s => x.ct (e.set n none) s, fun _ _ _ => False⟩
theorem xUn_rt {n : Nat} {d : D} : (xUn n x).rt d s = x.rt d s := rfl
def kHx (F : Fn) (h : B) (n : Nat) (e : Env) (N : Env → S → Prop) (x : Xs) : D → S → Prop := fun a s => OkS (denB F h (e.set n (some a)) s) (kUn n N) (xUn n x)
theorem kHx_app {h : B} {n : Nat} {a : D} : kHx F h n e N x a s = OkS (denB F h (e.set n (some a)) s) (kUn n N) (xUn n x) := rfl
def tryX (F : Fn) (c : Nat) (cs : List Nat) (n : Nat) (h : B) (N : Env → S → Prop) (x : Xs) : Xs := ⟨x.rt, x.bk, x.ct, fun c' e s => if cs.contains c' then (if subX c' c then kHx F h n e N x (.ref s.length) (s ++ [.exo c']) else x.ex c' e s) else False⟩
theorem tryX_rt {c n : Nat} {cs : List Nat} {h : B} : (tryX F c cs n h N x).rt = x.rt := rfl
theorem tryX_ex {c c' n : Nat} {cs : List Nat} {h : B} (h1 : cs.contains c' = true) (h2 : subX c' c = true) : (tryX F c cs n h N x).ex c' e s = Al (.exo c') (kHx F h n e N x) s := by
  show (if cs.contains c' then (if subX c' c then _ else x.ex c' e s) else False) = _
  rw [if_pos h1, if_pos h2]
  rfl
theorem OkS_unS {n : Nat} {r : SR} : OkS (unS n r) N x = OkS r (kUn n N) (xUn n x) := by cases r <;> rfl
theorem S_tryx {b h : B} {c n : Nat} {cs : List Nat} : OkS (denS F (.tryx b c cs n h) e s) N x = OkS (denB F b e s) N (tryX F c cs n h N x) := by
  simp only [denS]
  cases denB F b e s with
  | ex c' e' s' =>
    show OkS (if cs.contains c' then (if subX c' c then unS n (denB F h (e'.set n (some (.ref s'.length))) (s' ++ [.exo c'])) else .ex c' e' s') else .no) N x = (if cs.contains c' then (if subX c' c then kHx F h n e' N x (.ref s'.length) (s' ++ [.exo c']) else x.ex c' e' s') else False)
    split
    · split
      · rw [OkS_unS]; rfl
      · rfl
    · rfl
  | _ => rfl
def try2X (F : Fn) (cs : List Nat) (c1 : Nat) (h1 : B) (c2 : Nat) (h2 : B) (N : Env → S → Prop) (x : Xs) : Xs := ⟨x.rt, x.bk, x.ct, fun c' e s => if cs.contains c' then (if subX c' c1 then OkS (denB F h1 e s) N x else if subX c' c2 then OkS (denB F h2 e s) N x else x.ex c' e s) else False⟩
theorem try2X_rt {c1 c2 : Nat} {cs : List Nat} {h1 h2 : B} : (try2X F cs c1 h1 c2 h2 N x).rt = x.rt := rfl
theorem try2X_ex1 {c' c1 c2 : Nat} {cs : List Nat} {h1 h2 : B} (k1 : cs.contains c' = true) (k2 : subX c' c1 = true) : (try2X F cs c1 h1 c2 h2 N x).ex c' e s = OkS (denB F h1 e s) N x := by
  show (if cs.contains c' then (if subX c' c1 then _ else _) else False) = _
  rw [if_pos k1, if_pos k2]
theorem try2X_ex2 {c' c1 c2 : Nat} {cs : List Nat} {h1 h2 : B} (k1 : cs.contains c' = true) (k2 : subX c' c1 = false) (k3 : subX c' c2 = true) : (try2X F cs c1 h1 c2 h2 N x).ex c' e s = OkS (denB F h2 e s) N x := by
  show (if cs.contains c' then (if subX c' c1 then _ else if subX c' c2 then _ else _) else False) = _
  rw [if_pos k1, k2, if_neg Bool.false_ne_true, if_pos k3]
theorem S_try2 {b h1 h2 : B} {c1 c2 : Nat} {cs : List Nat} : OkS (denS F (.try2 b cs c1 h1 c2 h2) e s) N x = OkS (denB F b e s) N (try2X F cs c1 h1 c2 h2 N x) := by
  simp only [denS]
  cases denB F b e s with
  | ex c' e' s' =>
    show OkS (if cs.contains c' then (if subX c' c1 then denB F h1 e' s' else if subX c' c2 then denB F h2 e' s' else .ex c' e' s') else .no) N x = (if cs.contains c' then (if subX c' c1 then OkS (denB F h1 e' s') N x else if subX c' c2 then OkS (denB F h2 e' s') N x else x.ex c' e' s') else False)
    split <;> try split
    all_goals (try split)
    all_goals rfl
  | _ => rfl
/-! fields -/
def kSa1 (F : Fn) (o : E) (f : Str) (cs : List Nat) (e : Env) (N : Env → S → Prop) (x : Xs) : D → S → Prop := fun d s1 => Ok (denE F o e s1) (fun a s2 => match stF f cs a d s2 with | some s3 => N e s3 | none => False) (kX x e)
def kSa2 (f : Str) (cs : List Nat) (d : D) (e : Env) (N : Env → S → Prop) : D → S → Prop := fun a s2 => match stF f cs a d s2 with | some s3 => N e s3 | none => False
theorem S_seta {o a : E} {f : Str} {cs : List Nat} : OkS (denS F (.seta o f cs a) e s) N x = Ok (denE F a e s) (kSa1 F o f cs e N x) (kX x e) := by
  simp only [denS, OkS_st]; congr 1; funext d s; unfold kSa1; congr 1; funext a s2; cases stF f cs a d s2 <;> rfl
theorem kSa1_app {o : E} {f : Str} {cs : List Nat} {d : D} : kSa1 F o f cs e N x d s = Ok (denE F o e s) (kSa2 f cs d e N) (kX x e) := rfl
theorem kSa2_app {f : Str} {cs : List Nat} {d : D} {n c : Nat} {fs : List (Str × D)} (h : s[n]? = some (.ins c fs)) (hc : cs.contains c = true) (hl : fs.length < 900) : kSa2 f cs d e N (.ref n) s = N e (s.set n (.ins c (putFD f d fs))) := by
  unfold kSa2 stF; simp only [h, hc, hl, decide_true, Bool.and_self, if_true]
def kAa1 (F : Fn) (f : Str) (cs : List Nat) (op : BOp) (a : E) (e : Env) (N : Env → S → Prop) (x : Xs) : D → S → Prop := fun o s1 => match atr f cs o s1 with
  | some (v, _) => Ok (denE F a e s1) (fun d s2 => match augF op f o v d s1 s2 with | some s3 => N e s3 | none => False) (kX x e)
  | none => False
def kAa2 (f : Str) (op : BOp) (o v : D) (s1 : S) (e : Env) (N : Env → S → Prop) : D → S → Prop := fun d s2 => match augF op f o v d s1 s2 with | some s3 => N e s3 | none => False
theorem S_auga {o a : E} {f : Str} {cs : List Nat} {op : BOp} : OkS (denS F (.auga o f cs op a) e s) N x = Ok (denE F o e s) (kAa1 F f cs op a e N x) (kX x e) := by
  simp only [denS, OkS_st]; congr 1; funext d s; unfold kAa1
  cases h : atr f cs d s with
  | none => rfl
  | some p =>
    obtain ⟨v, s0⟩ := p
    simp only [OkS_st]
    congr 1; funext a s2; cases augF op f d v a s s2 <;> rfl
theorem kAa1_app {f : Str} {cs : List Nat} {op : BOp} {a : E} {n c : Nat} {fs : List (Str × D)} {v : D} (h : s[n]? = some (.ins c fs)) (hc : cs.contains c = true) (hv : fs.lookup f = some v) : kAa1 F f cs op a e N x (.ref n) s = Ok (denE F a e s) (kAa2 f op (.ref n) v s e N) (kX x e) := by
  unfold kAa1 atr; simp only [h, hc, hv, if_true]; rfl
theorem kAa2_app {f : Str} {op : BOp} {n c : Nat} {fs fs' : List (Str × D)} {v d r : D} {s1 : S} (h1 : s1[n]? = some (.ins c fs')) (h : s[n]? = some (.ins c fs)) (hl : fs.length < 900) (hr : aug2 op v d = some r) : kAa2 f op (.ref n) v s1 e N d s = N e (s.set n (.ins c (putFD f r fs))) := by
  unfold kAa2 augF; simp only [h, h1, hl, hr, and_self, if_true]
theorem S_whl {n : Nat} {c : Te} {b : B} : OkS (denS F (.whl n c b) e s) N x = OkS (loopW (denT F c) (denB F b) n e s) N x := by simp only [denS]
/-! tests -/
variable {P : Bool → S → Prop}
def kTb (P : Bool → S → Prop) : D → S → Prop := fun d s => match d with | .bl b => P b s | _ => False
theorem kTb_app {b : Bool} : kTb P (.bl b) s = P b s := rfl
def kC1 (F : Fn) (o : COp) (b : E) (e : Env) (Q : D → S → Prop) (X : Nat → S → Prop) : D → S → Prop := fun a s => Ok (denE F b e s) (fun y s2 => Ok (R.of (cop o a y s2)) Q X) X
def kC2 (o : COp) (a : D) (Q : D → S → Prop) (X : Nat → S → Prop) : D → S → Prop := fun y s2 => Ok (R.of (cop o a y s2)) Q X
theorem kC1_app {o : COp} {b : E} {a : D} : kC1 F o b e Q X a s = Ok (denE F b e s) (kC2 o a Q X) X := rfl
theorem kC2_app {o : COp} {a y : D} : kC2 o a Q X y s = Ok (R.of (cop o a y s)) Q X := rfl
theorem ok_tb {r : R D} : Ok (r.bind fun z s3 => match z with | .bl b => .ok b s3 | _ => .no) P X = Ok r (kTb P) X := by
  rw [Ok_bind]; congr 1; funext z s; unfold kTb; cases z <;> rfl
theorem T_cmp {o : COp} {a b : E} : Ok (denT F (.cmp o a b) e s) P X = Ok (denE F a e s) (kC1 F o b e (kTb P) X) X := by
  simp only [denT, Ok_bind]; congr 1; funext a s; unfold kC1; congr 1; funext y s2
  generalize R.of (cop o a y s2) = r
  cases r with
  | ok d s => cases d <;> rfl
  | _ => rfl
theorem T_val {a : E} : Ok (denT F (.val a) e s) P X = Ok (denE F a e s) (kTb P) X := by simp only [denT]; exact ok_tb
def kNotT (P : Bool → S → Prop) : Bool → S → Prop := fun b s => P (!b) s
theorem kNotT_app {b : Bool} : kNotT P b s = P (!b) s := rfl
theorem T_not {a : Te} : Ok (denT F (.not a) e s) P X = Ok (denT F a e s) (kNotT P) X := by simp only [denT, Ok_bind]; rfl
def kAndT (F : Fn) (b : Te) (e : Env) (P : Bool → S → Prop) (X : Nat → S → Prop) : Bool → S → Prop := fun k s => Ok (if k then denT F b e s else .ok false s) P X
theorem kAndT_true {b : Te} : kAndT F b e P X true s = Ok (denT F b e s) P X := rfl
theorem kAndT_false {b : Te} : kAndT F b e P X false s = P false s := rfl
theorem T_and {a b : Te} : Ok (denT F (.and a b) e s) P X = Ok (denT F a e s) (kAndT F b e P X) X := by simp only [denT, Ok_bind]; rfl
theorem kAndT_split {b : Te} {k : Bool} (h1 : k = true → Ok (denT F b e s) P X) (h2 : k = false → P false s) : kAndT F b e P X k s := by
  cases k with
  | true => exact h1 rfl
  | false => exact h2 rfl
def kOrT (F : Fn) (b : Te) (e : Env) (P : Bool → S → Prop) (X : Nat → S → Prop) : Bool → S → Prop := fun k s => Ok (if k then .ok true s else denT F b e s) P X
theorem kOrT_true {b : Te} : kOrT F b e P X true s = P true s := rfl
theorem kOrT_false {b : Te} : kOrT F b e P X false s = Ok (denT F b e s) P X := rfl
theorem T_or {a b : Te} : Ok (denT F (.or a b) e s) P X = Ok (denT F a e s) (kOrT F b e P X) X := by simp only [denT, Ok_bind]; rfl
theorem kOrT_split {b : Te} {k : Bool} (h1 : k = true → P true s) (h2 : k = false → Ok (denT F b e s) P X) : kOrT F b e P X k s := by
  cases k with
  | true => exact h1 rfl
  | false => exact h2 rfl
theorem kAndT_mid {c : Te} {a b : B} {k : Bool} {e' : Env} {N : Env → S → Prop} {x : Xs} {X' : Nat → S → Prop} (P : Env → S → Prop) (h1 : kAndT F c e' (kIf F a b e P x) X' k s) (h2 : ∀ e s, P e s → N e s) : kAndT F c e' (kIf F a b e N x) X' k s :=
  Ok.imp (Q := kIf F a b e P x) h1 (fun _ _ h => kIf_mid P h h2) fun _ _ h => h
theorem kOrT_mid {c : Te} {a b : B} {k : Bool} {e' : Env} {N : Env → S → Prop} {x : Xs} {X' : Nat → S → Prop} (P : Env → S → Prop) (h1 : kOrT F c e' (kIf F a b e P x) X' k s) (h2 : ∀ e s, P e s → N e s) : kOrT F c e' (kIf F a b e N x) X' k s :=
  Ok.imp (Q := kIf F a b e P x) h1 (fun _ _ h => kIf_mid P h h2) fun _ _ h => h
theorem T_one {a : Te} : Ok (denT F (.one a) e s) P X = Ok (denT F a e s) P X := by simp only [denT]
/-! expressions -/
theorem E_var {i : Nat} : Ok (denE F (.var i) e s) Q X = Ok (gV e s i) Q X := by simp only [denE]
theorem E_non : Ok (denE F .non e s) Q X = Q .non s := by simp only [denE]; rfl
theorem E_bl {b : Bool} : Ok (denE F (.bl b) e s) Q X = Q (.bl b) s := by simp only [denE]; rfl
theorem E_int {i : Int} : Ok (denE F (.int i) e s) Q X = Q (.int i) s := by simp only [denE]; rfl
theorem E_str {z : Str} : Ok (denE F (.str z) e s) Q X = Q (.str z) s := by simp only [denE]; rfl
theorem E_conI {z : Str} {i : Int} : Ok (denE F (.con z (.int i)) e s) Q X = Q (.int i) s := by simp only [denE]; rfl
theorem E_conS {z y : Str} : Ok (denE F (.con z (.str y)) e s) Q X = Q (.str y) s := by simp only [denE]; rfl
def k1 (f : D → S → Option (D × S)) (Q : D → S → Prop) (X : Nat → S → Prop) : D → S → Prop := fun a s => Ok (R.of (f a s)) Q X
theorem k1_app {f : D → S → Option (D × S)} {a : D} : k1 f Q X a s = Ok (R.of (f a s)) Q X := rfl
theorem E_neg {a : E} : Ok (denE F (.neg a) e s) Q X = Ok (denE F a e s) (k1 neg1 Q X) X := by simp only [denE, Ok_bind]; rfl
def kO1 (F : Fn) (f : D → D → S → Option (D × S)) (b : E) (e : Env) (Q : D → S → Prop) (X : Nat → S → Prop) : D → S → Prop := fun a s => Ok (denE F b e s) (fun y s2 => Ok (R.of (f a y s2)) Q X) X
def kO2 (f : D → D → S → Option (D × S)) (a : D) (Q : D → S → Prop) (X : Nat → S → Prop) : D → S → Prop := fun y s2 => Ok (R.of (f a y s2)) Q X
theorem kO1_app {f : D → D → S → Option (D × S)} {b : E} {a : D} : kO1 F f b e Q X a s = Ok (denE F b e s) (kO2 f a Q X) X := rfl
theorem kO2_app {f : D → D → S → Option (D × S)} {a y : D} : kO2 f a Q X y s = Ok (R.of (f a y s)) Q X := rfl
theorem E_bin {o : BOp} {a b : E} : Ok (denE F (.bin o a b) e s) Q X = Ok (denE F a e s) (kO1 F (bop o) b e Q X) X := by simp only [denE, Ok_bind]; rfl
theorem E_cmp {o : COp} {a b : E} : Ok (denE F (.cmp o a b) e s) Q X = Ok (denE F a e s) (kC1 F o b e Q X) X := by simp only [denE, Ok_bind]; rfl
theorem E_idx {a i : E} : Ok (denE F (.idx a i) e s) Q X = Ok (denE F a e s) (kO1 F idx2 i e Q X) X := by simp only [denE, Ok_bind]; rfl
def kAnd (F : Fn) (b : E) (e : Env) (Q : D → S → Prop) (X : Nat → S → Prop) : D → S → Prop := fun a s => match a with | .bl true => Ok (denE F b e s) Q X | .bl false => Q (.bl false) s | _ => False
def kOr (F : Fn) (b : E) (e : Env) (Q : D → S → Prop) (X : Nat → S → Prop) : D → S → Prop := fun a s => match a with | .bl true => Q (.bl true) s | .bl false => Ok (denE F b e s) Q X | _ => False
theorem kAnd_true {b : E} : kAnd F b e Q X (.bl true) s = Ok (denE F b e s) Q X := rfl
theorem kAnd_false {b : E} : kAnd F b e Q X (.bl false) s = Q (.bl false) s := rfl
theorem kOr_true {b : E} : kOr F b e Q X (.bl true) s = Q (.bl true) s := rfl
theorem kOr_false {b : E} : kOr F b e Q X (.bl false) s = Ok (denE F b e s) Q X := rfl
theorem kAnd_split {b : E} {k : Bool} (h1 : k = true → Ok (denE F b e s) Q X) (h2 : k = false → Q (.bl false) s) : kAnd F b e Q X (.bl k) s := by
  cases k with
  | true => exact h1 rfl
  | false => exact h2 rfl
theorem kOr_split {b : E} {k : Bool} (h1 : k = true → Q (.bl true) s) (h2 : k = false → Ok (denE F b e s) Q X) : kOr F b e Q X (.bl k) s := by
  cases k with
  | true => exact h1 rfl
  | false => exact h2 rfl
theorem E_and {a b : E} : Ok (denE F (.and a b) e s) Q X = Ok (denE F a e s) (kAnd F b e Q X) X := by
  simp only [denE, Ok_bind]; congr 1; funext d s; unfold kAnd
  cases d with
  | bl k => cases k <;> rfl
  | _ => rfl
theorem E_or {a b : E} : Ok (denE F (.or a b) e s) Q X = Ok (denE F a e s) (kOr F b e Q X) X := by
  simp only [denE, Ok_bind]; congr 1; funext d s; unfold kOr
  cases d with
  | bl k => cases k <;> rfl
  | _ => rfl
theorem E_one {a : E} : Ok (denE F (.one a) e s) Q X = Ok (denE F a e s) Q X := by simp only [denE]
def kNot (Q : D → S → Prop) : D → S → Prop := fun a s => match a with | .bl b => Q (.bl (!b)) s | _ => False
theorem kNot_app {b : Bool} : kNot Q (.bl b) s = Q (.bl (!b)) s := rfl
theorem E_not {a : E} : Ok (denE F (.not a) e s) Q X = Ok (denE F a e s) (kNot Q) X := by
  simp only [denE, Ok_bind]; congr 1; funext d s; unfold kNot; cases d <;> rfl
def kIte (F : Fn) (a b : E) (e : Env) (Q : D → S → Prop) (X : Nat → S → Prop) : Bool → S → Prop := fun k s => Ok (if k then denE F a e s else denE F b e s) Q X
theorem kIte_true {a b : E} : kIte F a b e Q X true s = Ok (denE F a e s) Q X := rfl
theorem kIte_false {a b : E} : kIte F a b e Q X false s = Ok (denE F b e s) Q X := rfl
theorem E_ite {c : Te} {a b : E} : Ok (denE F (.ite c a b) e s) Q X = Ok (denT F c e s) (kIte F a b e Q X) X := by simp only [denE, Ok_bind]; rfl
variable {A : List D → S → Prop}
def kA1 (F : Fn) (r : Es) (e : Env) (A : List D → S → Prop) (X : Nat → S → Prop) : D → S → Prop := fun a s => Ok (denA F r e s) (fun xs s2 => A (a :: xs) s2) X
def kA2 (a : D) (A : List D → S → Prop) : List D → S → Prop := fun xs s2 => A (a :: xs) s2
theorem kA1_app {r : Es} {a : D} : kA1 F r e A X a s = Ok (denA F r e s) (kA2 a A) X := rfl
theorem kA2_app {a : D} {xs : List D} : kA2 a A xs s = A (a :: xs) s := rfl
theorem A_nil : Ok (denA F .nil e s) A X = A [] s := by simp only [denA]; rfl
theorem A_cons {a : E} {r : Es} : Ok (denA F (.cons a r) e s) A X = Ok (denE F a e s) (kA1 F r e A X) X := by simp only [denA, Ok_bind]; rfl
def kTup (Q : D → S → Prop) : List D → S → Prop := fun xs s => Ok (R.of (mkT xs s)) Q fun _ _ => False
def kLst (Q : D → S → Prop) : List D → S → Prop := fun xs s => Ok (R.of (mkL xs s)) Q fun _ _ => False
theorem kTup_app {xs : List D} (h : xs.length ≤ 1000000) : kTup Q xs s = Q (.tup xs) s := by unfold kTup mkT; rw [if_pos h]; rfl
theorem kLst_app {xs : List D} (h : xs.length ≤ 1000000) : kLst Q xs s = Al (.lst xs) Q s := by unfold kLst mkL; rw [if_pos h]; rfl
theorem ok_of {o : Option (D × S)} : Ok (R.of o) Q X = Ok (R.of o) Q fun _ _ => False := by cases o <;> rfl
theorem E_tup {es : Es} : Ok (denE F (.tup es) e s) Q X = Ok (denA F es e s) (kTup Q) X := by
  simp only [denE, Ok_bind]; congr 1; funext xs s; exact ok_of
theorem E_lst {es : Es} : Ok (denE F (.lst es) e s) Q X = Ok (denA F es e s) (kLst Q) X := by
  simp only [denE, Ok_bind]; congr 1; funext xs s; exact ok_of
theorem E_dk : Ok (denE F .dk e s) Q X = Al (.dic []) Q s := by simp only [denE]; rfl
theorem E_dt : Ok (denE F .dt e s) Q X = Al (.dit []) Q s := by simp only [denE]; rfl
variable {Z : Option Int → S → Prop}
def kO (Z : Option Int → S → Prop) : D → S → Prop := fun a s => match a with | .int i => Z (some i) s | _ => False
theorem kO_app {i : Int} : kO Z (.int i) s = Z (some i) s := rfl
theorem O_none : Ok (denO F .none e s) Z X = Z none s := by simp only [denO]; rfl
theorem O_some {a : E} : Ok (denO F (.some a) e s) Z X = Ok (denE F a e s) (kO Z) X := by
  simp only [denO, Ok_bind]; congr 1; funext d s; unfold kO; cases d <;> rfl
def kS1 (F : Fn) (lo hi : Eo) (e : Env) (Q : D → S → Prop) (X : Nat → S → Prop) : D → S → Prop := fun a s => Ok (denO F lo e s) (fun l s2 => Ok (denO F hi e s2) (fun u s3 => Ok (R.of (slc a l u s3)) Q X) X) X
def kS2 (F : Fn) (hi : Eo) (a : D) (e : Env) (Q : D → S → Prop) (X : Nat → S → Prop) : Option Int → S → Prop := fun l s2 => Ok (denO F hi e s2) (fun u s3 => Ok (R.of (slc a l u s3)) Q X) X
def kS3 (a : D) (l : Option Int) (Q : D → S → Prop) (X : Nat → S → Prop) : Option Int → S → Prop := fun u s3 => Ok (R.of (slc a l u s3)) Q X
theorem kS1_app {lo hi : Eo} {a : D} : kS1 F lo hi e Q X a s = Ok (denO F lo e s) (kS2 F hi a e Q X) X := rfl
theorem kS2_app {hi : Eo} {a : D} {l : Option Int} : kS2 F hi a e Q X l s = Ok (denO F hi e s) (kS3 a l Q X) X := rfl
theorem kS3_app {a : D} {l u : Option Int} : kS3 a l Q X u s = Ok (R.of (slc a l u s)) Q X := rfl
theorem E_slc {a : E} {lo hi : Eo} : Ok (denE F (.slc a lo hi) e s) Q X = Ok (denE F a e s) (kS1 F lo hi e Q X) X := by simp only [denE, Ok_bind]; rfl
def kLz (Q : D → S → Prop) : List D → S → Prop := fun xs s => Ok (R.of (lzipL xs s)) Q fun _ _ => False
theorem kLz_app {xs : List D} : kLz Q xs s = Ok (R.of (lzipL xs s)) Q fun _ _ => False := rfl
theorem ok_lz {xs ys : List D} (h : xs.length = ys.length) : Ok (R.of (lzipL [.tup xs, .tup ys] s)) Q X = Al (.lst (zipD xs ys)) Q s := by
  have e : lzipL [.tup xs, .tup ys] s = some (.ref s.length, s ++ [.lst (zipD xs ys)]) := if_pos h
  rw [e]; rfl
theorem E_lrg1 {a : E} : Ok (denE F (.lrg1 a) e s) Q X = Ok (denE F a e s) (k1 (lrgI (.int 0)) Q X) X := by simp only [denE, Ok_bind]; rfl
theorem E_lzip {es : Es} : Ok (denE F (.lzip es) e s) Q X = Ok (denA F es e s) (kLz Q) X := by simp only [denE, Ok_bind]; congr 1; funext xs s; exact ok_of
theorem E_lrg2 {a b : E} : Ok (denE F (.lrg2 a b) e s) Q X = Ok (denE F a e s) (kO1 F lrgI b e Q X) X := by simp only [denE, Ok_bind]; rfl
theorem ok_lrg {i j : Int} (h : i.natAbs ≤ 1000000 ∧ j.natAbs ≤ 1000000) : Ok (R.of (lrgI (.int i) (.int j) s)) Q X = Al (.lst (rngD i 1 (j - i).toNat)) Q s := by
  have e : lrgI (.int i) (.int j) s = some (.ref s.length, s ++ [.lst (rngD i 1 (j - i).toNat)]) := if_pos h
  rw [e]; rfl
theorem E_nset {a : E} : Ok (denE F (.nset a) e s) Q X = Ok (denE F a e s) (k1 nset1 Q X) X := by simp only [denE, Ok_bind]; rfl
theorem E_rev {a : E} : Ok (denE F (.rev a) e s) Q X = Ok (denE F a e s) (k1 rev1 Q X) X := by simp only [denE, Ok_bind]; rfl
def kCall (F : Fn) (j : Nat) (Q : D → S → Prop) (X : Nat → S → Prop) : List D → S → Prop := fun xs s => Ok (F j xs s) Q X
theorem kCall_app {j : Nat} {xs : List D} : kCall F j Q X xs s = Ok (F j xs s) Q X := rfl
theorem E_call {j : Nat} {es : Es} : Ok (denE F (.call j es) e s) Q X = Ok (denA F es e s) (kCall F j Q X) X := by simp only [denE, Ok_bind]; rfl
def kBlt (b : Blt) (Q : D → S → Prop) (X : Nat → S → Prop) : List D → S → Prop := fun xs s => Ok (R.of (blt b xs s)) Q X
theorem kBlt_app {b : Blt} {xs : List D} : kBlt b Q X xs s = Ok (R.of (blt b xs s)) Q X := rfl
theorem E_blt {b : Blt} {es : Es} : Ok (denE F (.blt b es) e s) Q X = Ok (denA F es e s) (kBlt b Q X) X := by simp only [denE, Ok_bind]; rfl
theorem E_isi {t : Ty} {a : E} : Ok (denE F (.isi t a) e s) Q X = Ok (denE F a e s) (k1 (isi t) Q X) X := by simp only [denE, Ok_bind]; rfl
def kM1 (F : Fn) (m : Mth) (es : Es) (e : Env) (Q : D → S → Prop) (X : Nat → S → Prop) : D → S → Prop := fun a s => Ok (if rcv m.ty s a then (denA F es e s).bind fun xs s2 => R.of (mth m a xs s2) else .no) Q X
def kM2 (m : Mth) (a : D) (Q : D → S → Prop) (X : Nat → S → Prop) : List D → S → Prop := fun xs s => Ok (R.of (mth m a xs s)) Q X
theorem kM1_app {m : Mth} {es : Es} {a : D} (h : rcv m.ty s a = true) : kM1 F m es e Q X a s = Ok (denA F es e s) (kM2 m a Q X) X := by unfold kM1; rw [if_pos h, Ok_bind]; rfl
theorem kM2_app {m : Mth} {a : D} {xs : List D} : kM2 m a Q X xs s = Ok (R.of (mth m a xs s)) Q X := rfl
theorem E_mth {m : Mth} {o : E} {es : Es} : Ok (denE F (.mth m o es) e s) Q X = Ok (denE F o e s) (kM1 F m es e Q X) X := by simp only [denE, Ok_bind]; rfl
theorem E_isx {al cs : List Nat} {a : E} : Ok (denE F (.isx al cs a) e s) Q X = Ok (denE F a e s) (k1 (isx al cs) Q X) X := by simp only [denE, Ok_bind]; rfl
theorem isx_non {al cs : List Nat} : isx al cs .non s = some (.bl false, s) := rfl
theorem isx_ref {al cs : List Nat} {n c : Nat} (h : s[n]? = some (.exo c)) (ha : al.contains c = true) : isx al cs (.ref n) s = some (.bl (cs.any fun d => subX c d), s) := by
  unfold isx; simp only [h, ha, if_true]
theorem E_attr {o : E} {f : Str} {cs : List Nat} : Ok (denE F (.attr o f cs) e s) Q X = Ok (denE F o e s) (k1 (atr f cs) Q X) X := by simp only [denE, Ok_bind]; rfl
theorem atr_at {f : Str} {cs : List Nat} {n c : Nat} {fs : List (Str × D)} {v : D} (h : s[n]? = some (.ins c fs)) (hc : cs.contains c = true) (hv : fs.lookup f = some v) : atr f cs (.ref n) s = some (v, s) := by
  unfold atr; simp only [h, hc, hv, if_true]
def kMc1 (F : Fn) (m : Str) (tb : List (Nat × Nat)) (es : Es) (e : Env) (Q : D → S → Prop) (X : Nat → S → Prop) : D → S → Prop := fun d s1 => match mfind tb m s1 d with
  | some j => Ok (denA F es e s1) (fun xs s2 => Ok (F j (d :: xs) s2) Q X) X
  | none => False
def kMc2 (F : Fn) (j : Nat) (d : D) (Q : D → S → Prop) (X : Nat → S → Prop) : List D → S → Prop := fun xs s => Ok (F j (d :: xs) s) Q X
theorem kMc2_app {j : Nat} {d : D} {xs : List D} : kMc2 F j d Q X xs s = Ok (F j (d :: xs) s) Q X := rfl
theorem E_mcall {m : Str} {tb : List (Nat × Nat)} {o : E} {es : Es} : Ok (denE F (.mcall m tb o es) e s) Q X = Ok (denE F o e s) (kMc1 F m tb es e Q X) X := by
  simp only [denE, Ok_bind]; congr 1; funext d s; unfold kMc1
  cases mfind tb m s d with
  | none => rfl
  | some j => simp only [Ok_bind]
theorem kMc1_app {m : Str} {tb : List (Nat × Nat)} {es : Es} {n c j : Nat} {fs : List (Str × D)} (h : s[n]? = some (.ins c fs)) (hf : fs.lookup m = none) (hj : tb.lookup c = some j) : kMc1 F m tb es e Q X (.ref n) s = Ok (denA F es e s) (kMc2 F j (.ref n) Q X) X := by
  unfold kMc1 mfind; simp only [h, hf, hj]; rfl
def kNw (a : D) (Q : D → S → Prop) : D → S → Prop := fun r s => match r with | .non => Q a s | _ => False
theorem kNw_non {a : D} : kNw a Q .non s = Q a s := rfl
def kNi (F : Fn) (j : Nat) (xs : List D) (Q : D → S → Prop) (X : Nat → S → Prop) : D → S → Prop := fun a s => Ok (F j (a :: xs) s) (kNw a Q) X
theorem kNi_app {j : Nat} {xs : List D} {a : D} : kNi F j xs Q X a s = Ok (F j (a :: xs) s) (kNw a Q) X := rfl
def kNew (F : Fn) (c j : Nat) (Q : D → S → Prop) (X : Nat → S → Prop) : List D → S → Prop := fun xs s => Al (.ins c []) (kNi F j xs Q X) s
theorem kNew_app {c j : Nat} {xs : List D} : kNew F c j Q X xs s = Al (.ins c []) (kNi F j xs Q X) s := rfl
theorem E_new {c j : Nat} {es : Es} : Ok (denE F (.new c j es) e s) Q X = Ok (denA F es e s) (kNew F c j Q X) X := by
  simp only [denE, Ok_bind]; congr 1; funext xs s
  show _ = Ok (F j (.ref s.length :: xs) (s ++ [.ins c []])) (kNw (.ref s.length) Q) X
  congr 1; funext r s2; unfold kNw; cases r <;> rfl
/-! walks -/
variable {Y : List D × Gs → S → Prop}
def kW (f : D → S → R (List D × Gs)) (Y : List D × Gs → S → Prop) (X : Nat → S → Prop) : D → S → Prop := fun a s => Ok (f a s) Y X
def kWs (f : List D → S → R (List D × Gs)) (Y : List D × Gs → S → Prop) (X : Nat → S → Prop) : List D → S → Prop := fun a s => Ok (f a s) Y X
theorem kW_app {f : D → S → R (List D × Gs)} {a : D} : kW f Y X a s = Ok (f a s) Y X := rfl
theorem kWs_app {f : List D → S → R (List D × Gs)} {a : List D} : kWs f Y X a s = Ok (f a s) Y X := rfl
theorem W_seq {a : E} : Ok (denW F (.seq a) e s) Y X = Ok (denE F a e s) (kW itSeq Y X) X := by simp only [denW, Ok_bind]; rfl
theorem W_rng1 {es : Es} : Ok (denW F (.rng1 es) e s) Y X = Ok (denA F es e s) (kWs itRng1 Y X) X := by simp only [denW, Ok_bind]; rfl
theorem W_rng2 {es : Es} : Ok (denW F (.rng2 es) e s) Y X = Ok (denA F es e s) (kWs itRng2 Y X) X := by simp only [denW, Ok_bind]; rfl
theorem W_rng3 {es : Es} : Ok (denW F (.rng3 es) e s) Y X = Ok (denA F es e s) (kWs itRng3 Y X) X := by simp only [denW, Ok_bind]; rfl
theorem it_rng3 {i j c : Int} (h : c ≠ 0 ∧ c.natAbs ≤ 1000000 ∧ Builtin.Range.small i j c = true ∧ 0 ≤ Builtin.Range.rangeSize i j c) : itRng3 [.int i, .int j, .int c] s = .ok (rngD i c (Builtin.Range.rangeSize i j c).toNat, []) s := if_pos h
theorem W_enum {es : Es} : Ok (denW F (.enum es) e s) Y X = Ok (denA F es e s) (kWs itEnum Y X) X := by simp only [denW, Ok_bind]; rfl
theorem W_zip {es : Es} : Ok (denW F (.zip es) e s) Y X = Ok (denA F es e s) (kWs itZip Y X) X := by simp only [denW, Ok_bind]; rfl
theorem it_tup {ds : List D} : itSeq (.tup ds) s = .ok (ds, []) s := rfl
theorem it_rol {ds : List D} : itSeq (.rol ds) s = .ok (ds, []) s := rfl
theorem it_str {z : Str} : itSeq (.str z) s = .ok (z.cps.toList.map sgn, []) s := rfl
theorem it_ref {n : Nat} {ds : List D} (h : lsAt s n = some ds) : itSeq (.ref n) s = .ok (ds, [(n, ds)]) s := by unfold itSeq; simp only [h]
theorem it_rng1 {i : Int} (h : -1000000000 ≤ i ∧ i < 1000000000) : itRng1 [.int i] s = .ok (rngD 0 1 i.toNat, []) s := if_pos (show i.natAbs ≤ 1000000000 by omega)
theorem it_rng2 {i j : Int} (h : -1000000000 ≤ i ∧ i < 1000000000 ∧ -1000000000 ≤ j ∧ j < 1000000000) : itRng2 [.int i, .int j] s = .ok (rngD i 1 (j - i).toNat, []) s := if_pos (show i.natAbs ≤ 1000000000 ∧ j.natAbs ≤ 1000000000 by omega)
theorem it_zip {a b : D} {xs ys : List D} {g h : Gs} (h1 : zsrc s a = some (xs, g)) (h2 : zsrc s b = some (ys, h)) : itZip [a, b] s = .ok (zipD xs ys, g ++ h) s := by unfold itZip; simp only [h1, h2]
theorem zs_tup {ds : List D} : zsrc s (.tup ds) = some (ds, []) := rfl
theorem zs_rol {ds : List D} : zsrc s (.rol ds) = some (ds, []) := rfl
theorem zs_ref {n : Nat} {ds : List D} (h : lsAt s n = some ds) : zsrc s (.ref n) = some (ds, [(n, ds)]) := by unfold zsrc; simp only [h]
/-! comprehensions -/
def kLc (F : Fn) (own : List (Str × Nat)) (tg : Tg) (c : Co) (a : E) (e : Env) (Q : D → S → Prop) : List D × Gs → S → Prop := fun p s => OkC (loopC p.2 (denG tg) (denC F c) (denE F a) (wipeE e (own.map (·.2))) p.1 [] s) fun acc s => Q (.ref s.length) (s ++ [.lst acc])
def kAcc (Q : D → S → Prop) : List D → S → Prop := fun acc s => Q (.ref s.length) (s ++ [.lst acc])
theorem kAcc_app {acc : List D} : kAcc Q acc s = Al (.lst acc) Q s := rfl
theorem kLc_app {own : List (Str × Nat)} {tg : Tg} {c : Co} {a : E} {ds : List D} {gs : Gs} : kLc F own tg c a e Q (ds, gs) s = OkC (loopC gs (denG tg) (denC F c) (denE F a) (wipeE e (own.map (·.2))) ds [] s) (kAcc Q) := rfl
theorem E_lc {own : List (Str × Nat)} {tg : Tg} {w : Wa} {c : Co} {a : E} : Ok (denE F (.lc own tg w c a) e s) Q X = Ok (denW F w e s) (kLc F own tg c a e Q) X := by
  simp only [denE, Ok_bind]; congr 1; funext p s; unfold kLc
  cases loopC p.2 (denG tg) (denC F c) (denE F a) (wipeE e (own.map (·.2))) p.1 [] s <;> rfl
theorem C_none : Ok (denC F .none e s) P X = P true s := by simp only [denC]; rfl
theorem C_some {c : Te} : Ok (denC F (.some c) e s) P X = Ok (denT F c e s) P X := by simp only [denC]
/-! targets -/
theorem G_nm {i : Nat} {d : D} : denG (.nm i) d e = some (e.set i (some d)) := by simp only [denG]
theorem G_tp {ts : Tgs} {ds : List D} (h : ds.length = ts.len) : denG (.tp ts) (.tup ds) e = denGs ts ds e := by simp only [denG]; rw [if_pos h]
theorem Gs_nil : denGs .nil [] e = some e := by simp only [denGs]
theorem Gs_cons {t : Tg} {r : Tgs} {d : D} {q : List D} : denGs (.cons t r) (d :: q) e = (denG t d e).bind (denGs r q) := by simp only [denGs]
theorem len_ns : Tgs.nil.len = 0 := rfl
theorem len_cs {t : Tg} {r : Tgs} : (Tgs.cons t r).len = r.len + 1 := rfl
end
/-! ### loops -/
section
variable {gs : Gs} {g : D → Env → Option Env} {body : Env → S → SR} {x : Xs} {N : Env → S → Prop}
/-- I: of the items left, the slots, the store -/
theorem OkS_loopF (I : List D → Env → S → Prop) (hg : ∀ r e s, I r e s → Grd gs s)
    (hs : ∀ d r e s, I (d :: r) e s → ∃ e1, g d e = some e1 ∧ OkS (body e1 s) (I r) { x with bk := N, ct := I r }) (hd : ∀ e s, I [] e s → N e s) :
    ∀ (ds : List D) (e : Env) (s : S), I ds e s → OkS (loopF gs g body ds e s) N x
  | [], e, s, h => by
    unfold loopF; rw [if_pos (hg _ _ _ h)]; exact hd _ _ h
  | d :: r, e, s, h => by
    obtain ⟨e1, h1, h2⟩ := hs d r e s h
    unfold loopF; rw [if_pos (hg _ _ _ h)]
    simp only [h1]
    cases hb : body e1 s with
    | no => rw [hb] at h2; exact h2
    | nx e s => rw [hb] at h2; exact OkS_loopF I hg hs hd r e s h2
    | ct e s => rw [hb] at h2; exact OkS_loopF I hg hs hd r e s h2
    | bk e s => rw [hb] at h2; exact h2
    | rt d s => rw [hb] at h2; exact h2
    | ex c e s => rw [hb] at h2; exact h2
theorem Grd_nil {s : S} : Grd [] s := fun p hp => by cases hp
/-- I: of the items left, what is made, the store -/
theorem OkC_loopC {tst : Env → S → R Bool} {elt : Env → S → R D} {e : Env} {Q : List D → S → Prop} (I : List D → List D → S → Prop) (hg : ∀ r acc s, I r acc s → Grd gs s)
    (hs : ∀ d r acc s, I (d :: r) acc s → acc.length < 1000000 ∧ ∃ e1, g d e = some e1 ∧ Ok (tst e1 s) (fun b s1 => (b = true → Ok (elt e1 s1) (fun y s2 => I r (acc ++ [y]) s2) fun _ _ => False) ∧ (b = false → I r acc s1)) fun _ _ => False)
    (hd : ∀ acc s, I [] acc s → Q acc s) :
    ∀ (ds acc : List D) (s : S), I ds acc s → OkC (loopC gs g tst elt e ds acc s) Q
  | [], acc, s, h => by
    unfold loopC; rw [if_pos (hg _ _ _ h)]; exact hd _ _ h
  | d :: r, acc, s, h => by
    obtain ⟨hl, e1, h1, h2⟩ := hs d r acc s h
    unfold loopC; rw [if_pos (hg _ _ _ h)]
    simp only [h1]
    obtain ⟨b, s1, h3, h4, h5⟩ := h2.elim
    simp only [h3]
    cases b with
    | false => simp only [Bool.false_eq_true, if_false]; exact OkC_loopC I hg hs hd r acc s1 (h5 rfl)
    | true =>
      obtain ⟨y, s2, h6, h7⟩ := (h4 rfl).elim
      simp only [if_true, h6, hl]
      exact OkC_loopC I hg hs hd r (acc ++ [y]) s2 h7
/-- M: a bound of the turns left -/
theorem OkS_loopW {c : Env → S → R Bool} (I : Nat → Env → S → Prop)
    (hs : ∀ m e s, I m e s → Ok (c e s) (fun k s1 => (k = true → ∃ m', m' < m ∧ OkS (body e s1) (I m') { x with bk := N, ct := I m' }) ∧ (k = false → N e s1)) (kX x e)) :
    ∀ (n m : Nat) (e : Env) (s : S), m < n → I m e s → OkS (loopW c body n e s) N x
  | 0, m, _, _, h, _ => absurd h (by omega)
  | n + 1, m, e, s, h, hI => by
    have h1 := hs m e s hI
    unfold loopW
    rw [OkS_st]
    refine h1.imp (fun k s1 ⟨ht, hf⟩ => ?_) fun _ _ h => h
    cases k with
    | false => simp only [Bool.false_eq_true, if_false]; exact hf rfl
    | true =>
      obtain ⟨m', hm, h2⟩ := ht rfl
      simp only [if_true]
      cases hb : body e s1 with
      | no => rw [hb] at h2; exact h2
      | nx e s => rw [hb] at h2; exact OkS_loopW I hs n m' e s (by omega) h2
      | ct e s => rw [hb] at h2; exact OkS_loopW I hs n m' e s (by omega) h2
      | bk e s => rw [hb] at h2; exact h2
      | rt d s => rw [hb] at h2; exact h2
      | ex c e s => rw [hb] at h2; exact h2
end
section
variable {s s' : S} {n k : Nat} {i j : Int} {a b d e : D} {ds es xs ys : List D} {x y z : Str} {env : Env} {o : O}
theorem gV_0 : gV (some d :: env) s 0 = .ok d s := rfl
theorem gV_1 {a0 : Option D} : gV (a0 :: some d :: env) s 1 = .ok d s := rfl
theorem gV_2 {a0 a1 : Option D} : gV (a0 :: a1 :: some d :: env) s 2 = .ok d s := rfl
theorem gV_3 {a0 a1 a2 : Option D} : gV (a0 :: a1 :: a2 :: some d :: env) s 3 = .ok d s := rfl
theorem gV_4 {a0 a1 a2 a3 : Option D} : gV (a0 :: a1 :: a2 :: a3 :: some d :: env) s 4 = .ok d s := rfl
theorem gV_5 {a0 a1 a2 a3 a4 : Option D} : gV (a0 :: a1 :: a2 :: a3 :: a4 :: some d :: env) s 5 = .ok d s := rfl
theorem gV_6 {a0 a1 a2 a3 a4 a5 : Option D} : gV (a0 :: a1 :: a2 :: a3 :: a4 :: a5 :: some d :: env) s 6 = .ok d s := rfl
theorem gV_7 {a0 a1 a2 a3 a4 a5 a6 : Option D} : gV (a0 :: a1 :: a2 :: a3 :: a4 :: a5 :: a6 :: some d :: env) s 7 = .ok d s := rfl
theorem gV_8 {a0 a1 a2 a3 a4 a5 a6 a7 : Option D} : gV (a0 :: a1 :: a2 :: a3 :: a4 :: a5 :: a6 :: a7 :: some d :: env) s 8 = .ok d s := rfl
theorem gV_9 {a0 a1 a2 a3 a4 a5 a6 a7 a8 : Option D} : gV (a0 :: a1 :: a2 :: a3 :: a4 :: a5 :: a6 :: a7 :: a8 :: some d :: env) s 9 = .ok d s := rfl
theorem gV_10 {a0 a1 a2 a3 a4 a5 a6 a7 a8 a9 : Option D} : gV (a0 :: a1 :: a2 :: a3 :: a4 :: a5 :: a6 :: a7 :: a8 :: a9 :: some d :: env) s 10 = .ok d s := rfl
theorem gV_11 {a0 a1 a2 a3 a4 a5 a6 a7 a8 a9 a10 : Option D} : gV (a0 :: a1 :: a2 :: a3 :: a4 :: a5 :: a6 :: a7 :: a8 :: a9 :: a10 :: some d :: env) s 11 = .ok d s := rfl
theorem gV_12 {a0 a1 a2 a3 a4 a5 a6 a7 a8 a9 a10 a11 : Option D} : gV (a0 :: a1 :: a2 :: a3 :: a4 :: a5 :: a6 :: a7 :: a8 :: a9 :: a10 :: a11 :: some d :: env) s 12 = .ok d s := rfl
theorem gV_13 {a0 a1 a2 a3 a4 a5 a6 a7 a8 a9 a10 a11 a12 : Option D} : gV (a0 :: a1 :: a2 :: a3 :: a4 :: a5 :: a6 :: a7 :: a8 :: a9 :: a10 :: a11 :: a12 :: some d :: env) s 13 = .ok d s := rfl
theorem gV_14 {a0 a1 a2 a3 a4 a5 a6 a7 a8 a9 a10 a11 a12 a13 : Option D} : gV (a0 :: a1 :: a2 :: a3 :: a4 :: a5 :: a6 :: a7 :: a8 :: a9 :: a10 :: a11 :: a12 :: a13 :: some d :: env) s 14 = .ok d s := rfl
theorem gV_15 {a0 a1 a2 a3 a4 a5 a6 a7 a8 a9 a10 a11 a12 a13 a14 : Option D} : gV (a0 :: a1 :: a2 :: a3 :: a4 :: a5 :: a6 :: a7 :: a8 :: a9 :: a10 :: a11 :: a12 :: a13 :: a14 :: some d :: env) s 15 = .ok d s := rfl
theorem gV_16 {a0 a1 a2 a3 a4 a5 a6 a7 a8 a9 a10 a11 a12 a13 a14 a15 : Option D} : gV (a0 :: a1 :: a2 :: a3 :: a4 :: a5 :: a6 :: a7 :: a8 :: a9 :: a10 :: a11 :: a12 :: a13 :: a14 :: a15 :: some d :: env) s 16 = .ok d s := rfl
theorem gV_17 {a0 a1 a2 a3 a4 a5 a6 a7 a8 a9 a10 a11 a12 a13 a14 a15 a16 : Option D} : gV (a0 :: a1 :: a2 :: a3 :: a4 :: a5 :: a6 :: a7 :: a8 :: a9 :: a10 :: a11 :: a12 :: a13 :: a14 :: a15 :: a16 :: some d :: env) s 17 = .ok d s := rfl
theorem gV_18 {a0 a1 a2 a3 a4 a5 a6 a7 a8 a9 a10 a11 a12 a13 a14 a15 a16 a17 : Option D} : gV (a0 :: a1 :: a2 :: a3 :: a4 :: a5 :: a6 :: a7 :: a8 :: a9 :: a10 :: a11 :: a12 :: a13 :: a14 :: a15 :: a16 :: a17 :: some d :: env) s 18 = .ok d s := rfl
theorem gV_19 {a0 a1 a2 a3 a4 a5 a6 a7 a8 a9 a10 a11 a12 a13 a14 a15 a16 a17 a18 : Option D} : gV (a0 :: a1 :: a2 :: a3 :: a4 :: a5 :: a6 :: a7 :: a8 :: a9 :: a10 :: a11 :: a12 :: a13 :: a14 :: a15 :: a16 :: a17 :: a18 :: some d :: env) s 19 = .ok d s := rfl
theorem gV_20 {a0 a1 a2 a3 a4 a5 a6 a7 a8 a9 a10 a11 a12 a13 a14 a15 a16 a17 a18 a19 : Option D} : gV (a0 :: a1 :: a2 :: a3 :: a4 :: a5 :: a6 :: a7 :: a8 :: a9 :: a10 :: a11 :: a12 :: a13 :: a14 :: a15 :: a16 :: a17 :: a18 :: a19 :: some d :: env) s 20 = .ok d s := rfl
theorem gV_21 {a0 a1 a2 a3 a4 a5 a6 a7 a8 a9 a10 a11 a12 a13 a14 a15 a16 a17 a18 a19 a20 : Option D} : gV (a0 :: a1 :: a2 :: a3 :: a4 :: a5 :: a6 :: a7 :: a8 :: a9 :: a10 :: a11 :: a12 :: a13 :: a14 :: a15 :: a16 :: a17 :: a18 :: a19 :: a20 :: some d :: env) s 21 = .ok d s := rfl
theorem gV_22 {a0 a1 a2 a3 a4 a5 a6 a7 a8 a9 a10 a11 a12 a13 a14 a15 a16 a17 a18 a19 a20 a21 : Option D} : gV (a0 :: a1 :: a2 :: a3 :: a4 :: a5 :: a6 :: a7 :: a8 :: a9 :: a10 :: a11 :: a12 :: a13 :: a14 :: a15 :: a16 :: a17 :: a18 :: a19 :: a20 :: a21 :: some d :: env) s 22 = .ok d s := rfl
theorem gV_23 {a0 a1 a2 a3 a4 a5 a6 a7 a8 a9 a10 a11 a12 a13 a14 a15 a16 a17 a18 a19 a20 a21 a22 : Option D} : gV (a0 :: a1 :: a2 :: a3 :: a4 :: a5 :: a6 :: a7 :: a8 :: a9 :: a10 :: a11 :: a12 :: a13 :: a14 :: a15 :: a16 :: a17 :: a18 :: a19 :: a20 :: a21 :: a22 :: some d :: env) s 23 = .ok d s := rfl
/-! indices -/
theorem idx_tup : idx2 (.tup ds) (.int i) s = (atI ds i).map fun d => (d, s) := by
  unfold idx2; simp only [seqD]; cases atI ds i <;> rfl
theorem idx_rol : idx2 (.rol ds) (.int i) s = (atI ds i).map fun d => (d, s) := by
  unfold idx2; simp only [seqD]; cases atI ds i <;> rfl
theorem idx_ref (h : lsAt s n = some ds) : idx2 (.ref n) (.int i) s = (atI ds i).map fun d => (d, s) := by
  unfold idx2; simp only [seqD, h]; cases atI ds i <;> rfl
theorem idx_str (h : x.length ≤ 1000000) : idx2 (.str x) (.int i) s = (atI x.cps.toList i).map fun c => (.str ⟨#[c]⟩, s) := by
  unfold idx2; simp only [h, if_true]; cases atI x.cps.toList i <;> rfl
theorem atI_of {α : Type} {l : List α} {a : α} (m : Nat) (h : l[m]? = some a) : atI l (m : Int) = some a := by
  have hl := (List.getElem?_eq_some_iff.mp h).1
  unfold atI ixN
  rw [if_pos (by omega), if_pos (by omega)]
  simp [h]
theorem atI_lt {α : Type} {l : List α} {i : Int} (h0 : 0 ≤ i) (h1 : i < l.length) : atI l i = l[i.toNat]? := by
  unfold atI ixN
  rw [if_pos h0, if_pos h1]; rfl
theorem atI_0 {α : Type} {a : α} {l : List α} : atI (a :: l) 0 = some a := atI_of 0 rfl
theorem atI_1 {α : Type} {a b : α} {l : List α} : atI (a :: b :: l) 1 = some b := atI_of 1 rfl
theorem atI_2 {α : Type} {a b c : α} {l : List α} : atI (a :: b :: c :: l) 2 = some c := atI_of 2 rfl
theorem atI_3 {α : Type} {a b c d : α} {l : List α} : atI (a :: b :: c :: d :: l) 3 = some d := atI_of 3 rfl
theorem atI_4 {α : Type} {a b c d e : α} {l : List α} : atI (a :: b :: c :: d :: e :: l) 4 = some e := atI_of 4 rfl
theorem atI_5 {α : Type} {a b c d e f : α} {l : List α} : atI (a :: b :: c :: d :: e :: f :: l) 5 = some f := atI_of 5 rfl
theorem atI_6 {α : Type} {a b c d e f g : α} {l : List α} : atI (a :: b :: c :: d :: e :: f :: g :: l) 6 = some g := atI_of 6 rfl
theorem atI_7 {α : Type} {a b c d e f g h : α} {l : List α} : atI (a :: b :: c :: d :: e :: f :: g :: h :: l) 7 = some h := atI_of 7 rfl
/-! operations -/
theorem add_int : add2 (.int i) (.int j) s = some (.int (i + j), s) := rfl
theorem add_str (h : x.length + y.length ≤ 1000000) : add2 (.str x) (.str y) s = some (.str (x ++ y), s) := by unfold add2; simp only [h, if_true]
theorem add_tup (h : xs.length + ys.length ≤ 1000000) : add2 (.tup xs) (.tup ys) s = some (.tup (xs ++ ys), s) := by unfold add2; simp only [h, if_true]
theorem mkL_le (h : ds.length ≤ 1000000) : mkL ds s = some (.ref s.length, s ++ [.lst ds]) := by unfold mkL; simp only [h, if_true]
theorem add_ref (h1 : lsAt s n = some xs) (h2 : lsAt s k = some ys) (h : xs.length + ys.length ≤ 1000000) : add2 (.ref n) (.ref k) s = some (.ref s.length, s ++ [.lst (xs ++ ys)]) := by
  unfold add2; simp only [h1, h2]; exact mkL_le (by rw [List.length_append]; exact h)
theorem sub_int : sub2 (.int i) (.int j) s = some (.int (i - j), s) := rfl
theorem mul_intR (h : -(2 ^ 64) < j ∧ j < 2 ^ 64) : mul2 (.int i) (.int j) s = some (.int (i * j), s) := by
  unfold mul2; simp only [decide_eq_true h, Bool.or_true, Bool.true_or, if_true]
theorem mul_intL (h : -(2 ^ 64) < i ∧ i < 2 ^ 64) : mul2 (.int i) (.int j) s = some (.int (i * j), s) := by
  unfold mul2; simp only [decide_eq_true h, Bool.or_true, Bool.true_or, if_true]
theorem mul_str {x : Str} {k : Int} (h : k.natAbs ≤ 5000 ∧ x.length ≤ 1000) : mul2 (.str x) (.int k) s = some (.str (repS x k), s) := by unfold mul2; simp only [h, and_self, if_true]
theorem mul_tup {xs : List D} {k : Int} (h : k.natAbs ≤ 1000 ∧ xs.length ≤ 1000) : mul2 (.tup xs) (.int k) s = some (.tup (List.replicate k.toNat xs).flatten, s) := by unfold mul2; simp only [h, and_self, if_true]
theorem mul_sm (h1 : i.natAbs < 2 ^ 1000) (h2 : j.natAbs < 2 ^ 1000) : mul2 (.int i) (.int j) s = some (.int (i * j), s) := by unfold mul2 sm; simp only [decide_eq_true h1, decide_eq_true h2, Bool.and_true, Bool.or_true, if_true]
theorem fdiv_int (h : 0 < j) (h2 : j.natAbs < 2 ^ 1000) : fdiv2 (.int i) (.int j) s = some (.int (i / j), s) := by unfold fdiv2 sm; simp only [decide_eq_true h2, h, and_self, if_true]
theorem mod_int (h : 0 < j) : mod2 (.int i) (.int j) s = some (.int (i % j), s) := by unfold mod2; simp only [h, if_true]
theorem pow_int (h : 0 ≤ j ∧ j ≤ 1000000 ∧ i.natAbs < 2 ^ 64) : pow2 (.int i) (.int j) s = some (.int (i ^ j.toNat), s) := by unfold pow2; simp only [h, and_self, if_true]
theorem bop_add : bop .add = add2 := rfl
theorem bop_sub : bop .sub = sub2 := rfl
theorem bop_mul : bop .mul = mul2 := rfl
theorem bop_fdiv : bop .fdiv = fdiv2 := rfl
theorem bop_mod : bop .mod = mod2 := rfl
theorem bop_pow : bop .pow = pow2 := rfl
theorem neg_int : neg1 (.int i) s = some (.int (-i), s) := rfl
/-! comparisons -/
theorem lt_int : cop .lt (.int i) (.int j) s = some (.bl (decide (i < j)), s) := rfl
theorem le_int : cop .le (.int i) (.int j) s = some (.bl (decide (i ≤ j)), s) := rfl
theorem gt_int : cop .gt (.int i) (.int j) s = some (.bl (decide (j < i)), s) := rfl
theorem ge_int : cop .ge (.int i) (.int j) s = some (.bl (decide (j ≤ i)), s) := rfl
theorem eq_any : cop .eq a b s = bOf (eqD s 60 a b) s := rfl
theorem ne_any : cop .ne a b s = bOf ((eqD s 60 a b).map (!·)) s := rfl
theorem is_any : cop .is_ a b s = is2 false a b s := rfl
theorem isn_any : cop .isnot a b s = is2 true a b s := rfl
theorem in_any : cop .in_ a b s = in2 false a b s := rfl
theorem nin_any : cop .notin a b s = in2 true a b s := rfl
theorem bOf_some {b : Bool} : bOf (some b) s = some (.bl b, s) := rfl
theorem is_non : is2 false a .non s = some (.bl (isNon a), s) := rfl
theorem isn_non : is2 true a .non s = some (.bl (!isNon a), s) := rfl
theorem is_bl {b c : Bool} : is2 false (.bl b) (.bl c) s = some (.bl (decide (b = c)), s) := rfl
theorem eq_int : eqD s (n + 1) (.int i) (.int j) = some (i == j) := rfl
theorem eq_str : eqD s (n + 1) (.str x) (.str y) = some (x == y) := rfl
theorem eq_bl {b c : Bool} : eqD s (n + 1) (.bl b) (.bl c) = some (b == c) := rfl
theorem eq_nn : eqD s (n + 1) .non .non = some true := rfl
theorem eq_tup : eqD s (n + 1) (.tup xs) (.tup ys) = eqL (eqD s n) xs ys := rfl
theorem eq_tupstr : eqD s (n + 1) (.tup xs) (.str y) = some false := rfl
theorem eq_strtup : eqD s (n + 1) (.str y) (.tup xs) = some false := rfl
/-! stores -/
theorem lsAt_lt (h : lsAt s n = some ds) : n < s.length := (List.getElem?_eq_some_iff.mp (lsAt_some h)).1
theorem lsAt_of (h : s[n]? = some (.lst ds)) : lsAt s n = some ds := by unfold lsAt; rw [h]
theorem lsAt_set (h : lsAt s n = some ds) : lsAt (s.set n (.lst es)) n = some es := by
  unfold lsAt; rw [List.getElem?_set_self (lsAt_lt h)]
theorem lsAt_setne (h : k ≠ n) : lsAt (s.set k o) n = lsAt s n := by
  unfold lsAt; rw [List.getElem?_set_ne h]
theorem lsAt_push (h : lsAt s n = some ds) : lsAt (s ++ [o]) n = some ds := by
  unfold lsAt; rw [List.getElem?_append_left (lsAt_lt h)]; exact lsAt_of (lsAt_some h)
theorem lsAt_new : lsAt (s ++ [.lst ds]) s.length = some ds := by
  unfold lsAt; rw [List.getElem?_append_right (Nat.le_refl _)]; simp
theorem setAt_ref {m : Nat} (h : lsAt s n = some ds) (hj : ixN ds.length i = some m) : setAt s (.ref n) (.int i) d = some (s.set n (.lst (ds.set m d))) := by
  unfold setAt; simp only [h, hj]
theorem kSub3_ref {N : Env → S → Prop} (h : lsAt s n = some ds) : kSub3 d (.ref n) env N (.int i) s = match ixN ds.length i with | some m => N env (s.set n (.lst (ds.set m d))) | none => False := by
  unfold kSub3 setAt; simp only [h]; cases ixN ds.length i <;> rfl
theorem lsAt_dc {kvs : List (Key × D)} (h : dcAt s n = some kvs) : lsAt s n = none := by unfold lsAt; rw [dcAt_some h]
theorem dcAt_lt {kvs : List (Key × D)} (h : dcAt s n = some kvs) : n < s.length := (List.getElem?_eq_some_iff.mp (dcAt_some h)).1
theorem dcAt_set {kvs kws : List (Key × D)} (h : dcAt s n = some kvs) : dcAt (s.set n (.dic kws)) n = some kws := by
  unfold dcAt; rw [List.getElem?_set_self (dcAt_lt h)]
theorem dcAt_setne (h : k ≠ n) : dcAt (s.set k o) n = dcAt s n := by
  unfold dcAt; rw [List.getElem?_set_ne h]
theorem lsAt_setd {kvs kws : List (Key × D)} (h : dcAt s n = some kvs) : lsAt (s.set n (.dic kws)) k = lsAt s k := by
  unfold lsAt
  by_cases e : n = k
  · subst e; rw [List.getElem?_set_self (dcAt_lt h), dcAt_some h]
  · rw [List.getElem?_set_ne e]
theorem in_dic {kvs : List (Key × D)} {q : Key} {neg : Bool} (h : dcAt s n = some kvs) (hk : keyOf d = some q) : in2 neg d (.ref n) s = some (.bl (if neg then !(valD kvs q).isSome else (valD kvs q).isSome), s) := by
  unfold in2; simp only [lsAt_dc h, dcR_of h, hk]
theorem idx_dicS {kvs : List (Key × D)} (h : dcAt s n = some kvs) : idx2 (.ref n) (.str x) s = (valD kvs (.inr x)).map fun d => (d, s) := by
  unfold idx2; simp only [dcR_of h]; cases valD kvs (.inr x) <;> rfl
theorem idx_dicI {kvs : List (Key × D)} {i : Int} (h : dcAt s n = some kvs) : idx2 (.ref n) (.int i) s = (valD kvs (.inl i)).map fun d => (d, s) := by
  unfold idx2; simp only [seqD, lsAt_dc h, dcR_of h]; cases valD kvs (.inl i) <;> rfl
theorem kSub3_dicS {N : Env → S → Prop} {kvs : List (Key × D)} (h : dcAt s n = some kvs) (hl : kvs.length < 1000000) : kSub3 d (.ref n) env N (.str x) s = N env (s.set n (.dic (putD kvs (.inr x) d))) := by
  unfold kSub3 setAt; simp only [h, if_pos hl]
theorem kSub3_dicI {N : Env → S → Prop} {kvs : List (Key × D)} {i : Int} (h : dcAt s n = some kvs) (hl : kvs.length < 1000000) : kSub3 d (.ref n) env N (.int i) s = N env (s.set n (.dic (putD kvs (.inl i) d))) := by
  unfold kSub3 setAt; simp only [lsAt_dc h, h, if_pos hl]
theorem ix10 : ixN 1 0 = some 0 := rfl
theorem ix20 : ixN 2 0 = some 0 := rfl
theorem ix21 : ixN 2 1 = some 1 := rfl
theorem ix30 : ixN 3 0 = some 0 := rfl
theorem ix31 : ixN 3 1 = some 1 := rfl
theorem ix32 : ixN 3 2 = some 2 := rfl
/-! built-ins -/
theorem len_tup : blt .len [.tup ds] s = some (.int ds.length, s) := rfl
theorem len_rol : blt .len [.rol ds] s = some (.int ds.length, s) := rfl
theorem len_ref (h : lsAt s n = some ds) : blt .len [.ref n] s = some (.int ds.length, s) := by unfold blt; simp only [seqD, h]
theorem len_str (h : x.length ≤ 1000000) : blt .len [.str x] s = some (.int x.length, s) := by unfold blt; simp only [h, if_true]
theorem b_list_tup : blt .list [.tup ds] s = some (.ref s.length, s ++ [.lst ds]) := rfl
theorem b_list_ref (h : lsAt s n = some ds) : blt .list [.ref n] s = some (.ref s.length, s ++ [.lst ds]) := by unfold blt; simp only [seqD, h]
theorem b_tuple_tup : blt .tuple [.tup ds] s = some (.tup ds, s) := rfl
theorem b_tuple_ref (h : lsAt s n = some ds) : blt .tuple [.ref n] s = some (.tup ds, s) := by unfold blt; simp only [seqD, h]
theorem b_max2 : blt .max2 [.int i, .int j] s = some (.int (max i j), s) := by
  have : (if j > i then j else i) = max i j := by by_cases h : j > i <;> simp only [h, if_true, if_false] <;> omega
  rw [← this]; rfl
theorem b_min2 : blt .min2 [.int i, .int j] s = some (.int (min i j), s) := by
  have : (if j < i then j else i) = min i j := by by_cases h : j < i <;> simp only [h, if_true, if_false] <;> omega
  rw [← this]; rfl
theorem b_int_bl {b : Bool} : blt .int [.bl b] s = some (.int (if b then 1 else 0), s) := rfl
theorem b_int_int : blt .int [.int i] s = some (.int i, s) := rfl
theorem isi_non {t : Ty} : isi t .non s = some (.bl (isT .non t), s) := rfl
theorem isi_bl {t : Ty} {b : Bool} : isi t (.bl b) s = some (.bl (isT .bl t), s) := rfl
theorem isi_int {t : Ty} : isi t (.int i) s = some (.bl (isT .int t), s) := rfl
theorem isi_str {t : Ty} : isi t (.str x) s = some (.bl (isT .str t), s) := rfl
theorem isi_tup {t : Ty} : isi t (.tup ds) s = some (.bl (isT .tup t), s) := rfl
theorem isi_rol {t : Ty} : isi t (.rol ds) s = some (.bl (isT .lst t), s) := rfl
theorem isi_ref {t : Ty} (h : lsAt s n = some ds) : isi t (.ref n) s = some (.bl (isT .lst t), s) := by unfold isi tyD; simp only [lsAt_some h]
/-! what makes lists -/
section
variable {Q : D → S → Prop} {X : Nat → S → Prop}
theorem ok_sortedD {kvs : List (Key × D)} (h : dcAt s n = some kvs) (ho : (allInt (kvs.map fun p => keyR p.1) || allStr (kvs.map fun p => keyR p.1)) = true) : Ok (R.of (blt .sorted [.ref n] s)) Q X = Al (.lst (sortD (kvs.map fun p => keyR p.1))) Q s := by
  have e : blt .sorted [.ref n] s = some (.ref s.length, s ++ [.lst (sortD (kvs.map fun p => keyR p.1))]) := by unfold blt; simp only [seqD, lsAt_dc h, dcAt_some h, ho, if_true]
  rw [e]; rfl
theorem ok_listD {kvs : List (Key × D)} (h : dcAt s n = some kvs) : Ok (R.of (blt .list [.ref n] s)) Q X = Al (.lst (kvs.map fun p => keyR p.1)) Q s := by
  have e : blt .list [.ref n] s = some (.ref s.length, s ++ [.lst (kvs.map fun p => keyR p.1)]) := by unfold blt; simp only [seqD, lsAt_dc h, dcAt_some h]
  rw [e]; rfl
theorem ok_sorted (h : lsAt s n = some ds) (ho : sortOk ds = true) : Ok (R.of (blt .sorted [.ref n] s)) Q X = Al (.lst (sortD ds)) Q s := by
  have e : blt .sorted [.ref n] s = some (.ref s.length, s ++ [.lst (sortD ds)]) := by unfold blt; simp only [seqD, h, ho, if_true]
  rw [e]; rfl
theorem ok_list_tup : Ok (R.of (blt .list [.tup ds] s)) Q X = Al (.lst ds) Q s := rfl
theorem ok_list_ref (h : lsAt s n = some ds) : Ok (R.of (blt .list [.ref n] s)) Q X = Al (.lst ds) Q s := by rw [b_list_ref h]; rfl
theorem ok_add_ref (h1 : lsAt s n = some xs) (h2 : lsAt s k = some ys) (h : xs.length + ys.length ≤ 1000000) : Ok (R.of (add2 (.ref n) (.ref k) s)) Q X = Al (.lst (xs ++ ys)) Q s := by rw [add_ref h1 h2 h]; rfl
theorem ok_rol_add (h1 : lsAt s n = some ys) (h : xs.length + ys.length ≤ 1000000) : Ok (R.of (add2 (.rol xs) (.ref n) s)) Q X = Al (.lst (xs ++ ys)) Q s := by
  have e : add2 (.rol xs) (.ref n) s = some (.ref s.length, s ++ [.lst (xs ++ ys)]) := by
    unfold add2; simp only [h1]; exact mkL_le (by rw [List.length_append]; exact h)
  rw [e]; rfl
theorem ok_add_rol (h1 : lsAt s n = some xs) (h : xs.length + ys.length ≤ 1000000) : Ok (R.of (add2 (.ref n) (.rol ys) s)) Q X = Al (.lst (xs ++ ys)) Q s := by
  have e : add2 (.ref n) (.rol ys) s = some (.ref s.length, s ++ [.lst (xs ++ ys)]) := by
    unfold add2; simp only [h1]; exact mkL_le (by rw [List.length_append]; exact h)
  rw [e]; rfl
end
/-! methods, slices -/
theorem index_ref (h : lsAt s n = some ds) (hi : inL (eqD s 60) d ds = some true) : mth .index (.ref n) [d] s = some (.int (posL (eqD s 60) d ds), s) := by unfold mth; simp only [h, hi]
theorem append_ref (h : lsAt s n = some ds) (hl : ds.length < 1000000) : mth .append (.ref n) [d] s = some (.non, s.set n (.lst (ds ++ [d]))) := by unfold mth; simp only [h, hl, if_true]
theorem rcv_ref (h : lsAt s n = some ds) : rcv .lst s (.ref n) = true := by unfold rcv tyD; simp only [lsAt_some h]
theorem upper_str (h : x.length ≤ 1000000) : mth .upper (.str x) [] s = some (.str (Txt.upper x), s) := by unfold mth; simp only [h, if_true]
theorem rcv_str : rcv .str s (.str x) = true := rfl
section
variable {F : Fn} {es' : Es} {Q : D → S → Prop} {X : Nat → S → Prop}
theorem kM_upper : kM1 F .upper es' env Q X (.str x) s = Ok (denA F es' env s) (kM2 .upper (.str x) Q X) X := kM1_app rfl
theorem kM_split : kM1 F .split es' env Q X (.str x) s = Ok (denA F es' env s) (kM2 .split (.str x) Q X) X := kM1_app rfl
theorem kM_sidx : kM1 F .sidx es' env Q X (.str x) s = Ok (denA F es' env s) (kM2 .sidx (.str x) Q X) X := kM1_app rfl
theorem sidx_str {a b : Str} {i : Nat} {r : List Nat} (h : PySem.Builtin.Str.occurrences a b 0 a.length 1 = i :: r) : mth .sidx (.str a) [.str b] s = some (.int i, s) := by unfold mth; simp only [h]
theorem kM_join : kM1 F .join es' env Q X (.str x) s = Ok (denA F es' env s) (kM2 .join (.str x) Q X) X := kM1_app rfl
theorem kM_index (h : lsAt s n = some ds) : kM1 F .index es' env Q X (.ref n) s = Ok (denA F es' env s) (kM2 .index (.ref n) Q X) X := kM1_app (rcv_ref h)
theorem kM_append (h : lsAt s n = some ds) : kM1 F .append es' env Q X (.ref n) s = Ok (denA F es' env s) (kM2 .append (.ref n) Q X) X := kM1_app (rcv_ref h)
theorem rcv_dic {kvs : List (Key × D)} (h : dcAt s n = some kvs) : rcv .dic s (.ref n) = true := by unfold rcv tyD; simp only [dcAt_some h]
theorem kM_dget {kvs : List (Key × D)} (h : dcAt s n = some kvs) : kM1 F .dget es' env Q X (.ref n) s = Ok (denA F es' env s) (kM2 .dget (.ref n) Q X) X := kM1_app (rcv_dic h)
theorem kM_dpop {kvs : List (Key × D)} (h : dcAt s n = some kvs) : kM1 F .dpop es' env Q X (.ref n) s = Ok (denA F es' env s) (kM2 .dpop (.ref n) Q X) X := kM1_app (rcv_dic h)
theorem dget1 {kvs : List (Key × D)} {q : Key} (h : dcAt s n = some kvs) (hk : keyOf d = some q) : mth .dget (.ref n) [d] s = some ((valD kvs q).getD .non, s) := by unfold mth; simp only [h, hk]
theorem dget2 {kvs : List (Key × D)} {q : Key} {d2 : D} (h : dcAt s n = some kvs) (hk : keyOf d = some q) : mth .dget (.ref n) [d, d2] s = some ((valD kvs q).getD d2, s) := by unfold mth; simp only [h, hk]
theorem dgetN {kvs : List (Key × D)} (h : dcAt s n = some kvs) : mth .dget (.ref n) [.non] s = some (.non, s) := by unfold mth; simp only [h, keyOf]; rfl
theorem dget2N {kvs : List (Key × D)} {d2 : D} (h : dcAt s n = some kvs) : mth .dget (.ref n) [.non, d2] s = some (d2, s) := by unfold mth; simp only [h, keyOf]; rfl
theorem ok_split {a b : Str} (hb : b.length ≠ 0) (ha : a.length ≤ 1000000) (hl : (Txt.split a b).length ≤ 1000000) : Ok (R.of (mth .split (.str a) [.str b] s)) Q X = Al (.lst ((Txt.split a b).map D.str)) Q s := by
  have e : mth .split (.str a) [.str b] s = some (.ref s.length, s ++ [.lst ((Txt.split a b).map D.str)]) := by
    unfold mth mkL
    simp only [ne_eq, hb, not_false_eq_true, ha, and_self, if_true, List.length_map, hl]
  rw [e]; rfl
theorem dpop1 {kvs : List (Key × D)} {q : Key} {d2 : D} (h : dcAt s n = some kvs) (hk : keyOf d = some q) (hv : valD kvs q = some d2) : mth .dpop (.ref n) [d] s = some (d2, s.set n (.dic (dropD kvs q))) := by unfold mth; simp only [h, hk, hv]
theorem kM_extend (h : lsAt s n = some ds) : kM1 F .extend es' env Q X (.ref n) s = Ok (denA F es' env s) (kM2 .extend (.ref n) Q X) X := kM1_app (rcv_ref h)
theorem kM_pop0 (h : lsAt s n = some ds) : kM1 F .pop0 es' env Q X (.ref n) s = Ok (denA F es' env s) (kM2 .pop0 (.ref n) Q X) X := kM1_app (rcv_ref h)
theorem kM_popAt (h : lsAt s n = some ds) : kM1 F .popAt es' env Q X (.ref n) s = Ok (denA F es' env s) (kM2 .popAt (.ref n) Q X) X := kM1_app (rcv_ref h)
theorem kM_reverse (h : lsAt s n = some ds) : kM1 F .reverse es' env Q X (.ref n) s = Ok (denA F es' env s) (kM2 .reverse (.ref n) Q X) X := kM1_app (rcv_ref h)
theorem kM_insert (h : lsAt s n = some ds) : kM1 F .insert es' env Q X (.ref n) s = Ok (denA F es' env s) (kM2 .insert (.ref n) Q X) X := kM1_app (rcv_ref h)
theorem kM_clear (h : lsAt s n = some ds) : kM1 F .clear es' env Q X (.ref n) s = Ok (denA F es' env s) (kM2 .clear (.ref n) Q X) X := kM1_app (rcv_ref h)
end
theorem slc_tup {l u : Option Int} : slc (.tup ds) l u s = some (.tup (cutD ds l u), s) := rfl
theorem slc_str {l u : Option Int} (h : x.length ≤ 1000000) : slc (.str x) l u s = some (.str (cutS x l u), s) := by unfold slc; simp only [h, if_true]
theorem slc_ref {l u : Option Int} (h : lsAt s n = some ds) : slc (.ref n) l u s = some (.ref s.length, s ++ [.lst (cutD ds l u)]) := by unfold slc; simp only [h]
theorem rev_str (h : x.length ≤ 1000000) : rev1 (.str x) s = some (.str (L2.revS x), s) := by unfold rev1; simp only [h, if_true]
theorem rev_tup : rev1 (.tup ds) s = some (.tup ds.reverse, s) := rfl
theorem rev_ref (h : lsAt s n = some ds) : rev1 (.ref n) s = some (.ref s.length, s ++ [.lst ds.reverse]) := by unfold rev1; simp only [h]
theorem ok_rev_ref {Q : D → S → Prop} {X : Nat → S → Prop} (h : lsAt s n = some ds) : Ok (R.of (rev1 (.ref n) s)) Q X = Al (.lst ds.reverse) Q s := by rw [rev_ref h]; rfl
theorem ok_slc_ref {Q : D → S → Prop} {X : Nat → S → Prop} {l u : Option Int} (h : lsAt s n = some ds) : Ok (R.of (slc (.ref n) l u s)) Q X = Al (.lst (cutD ds l u)) Q s := by rw [slc_ref h]; rfl
end
section
variable {F : Fn} {Q : D → S → Prop} {X : Nat → S → Prop} {N : Env → S → Prop} {x : Xs} {P : Bool → S → Prop} {e : Env} {s : S} {n : Nat} {i j k : Int} {ds : List D} {a d v : D}
/-! o[i] op= a -/
def kAs1 (F : Fn) (i : E) (op : BOp) (a : E) (e : Env) (N : Env → S → Prop) (x : Xs) : D → S → Prop := fun o s1 => Ok (denE F i e s1) (fun k s2 => match rdL s2 o k with | some v => Ok (denE F a e s2) (fun d s3 => match augL op o k v d s3 with | some s4 => N e s4 | none => False) (kX x e) | none => False) (kX x e)
def kAs2 (F : Fn) (op : BOp) (a : E) (o : D) (e : Env) (N : Env → S → Prop) (x : Xs) : D → S → Prop := fun k s2 => match rdL s2 o k with | some v => Ok (denE F a e s2) (fun d s3 => match augL op o k v d s3 with | some s4 => N e s4 | none => False) (kX x e) | none => False
def kAs3 (op : BOp) (o k v : D) (e : Env) (N : Env → S → Prop) : D → S → Prop := fun d s3 => match augL op o k v d s3 with | some s4 => N e s4 | none => False
theorem S_augs {o i a : E} {op : BOp} : OkS (denS F (.augs o i op a) e s) N x = Ok (denE F o e s) (kAs1 F i op a e N x) (kX x e) := by
  simp only [denS, OkS_st]; congr 1; funext d s; unfold kAs1; congr 1; funext k s2
  cases h : rdL s2 d k with
  | none => rfl
  | some v =>
    simp only [OkS_st]
    congr 1; funext a s3; cases augL op d k v a s3 <;> rfl
theorem kAs1_app {i a : E} {op : BOp} {o : D} : kAs1 F i op a e N x o s = Ok (denE F i e s) (kAs2 F op a o e N x) (kX x e) := rfl
theorem kAs2_app {a : E} {op : BOp} (h : lsAt s n = some ds) (hv : atI ds i = some v) : kAs2 F op a (.ref n) e N x (.int i) s = Ok (denE F a e s) (kAs3 op (.ref n) (.int i) v e N) (kX x e) := by
  have e1 : rdL s (.ref n) (.int i) = some v := by unfold rdL; simp only [h, hv]
  unfold kAs2; simp only [e1]; rfl
theorem kAs3_app {op : BOp} {r : D} {m : Nat} (h : lsAt s n = some ds) (hj : ixN ds.length i = some m) (hr : aug2 op v d = some r) : kAs3 op (.ref n) (.int i) v e N d s = N e (s.set n (.lst (ds.set m r))) := by
  have e1 : augL op (.ref n) (.int i) v d s = some (s.set n (.lst (ds.set m r))) := by unfold augL; simp only [h, hj, hr]
  unfold kAs3; simp only [e1]
theorem aug2_add : aug2 .add (.int i) (.int j) = some (.int (i + j)) := rfl
theorem aug2_sub : aug2 .sub (.int i) (.int j) = some (.int (i - j)) := rfl
/-! displayed dicts -/
def kDs1 (F : Fn) (ks : List Str) (es : Es) (e : Env) (Q : D → S → Prop) (X : Nat → S → Prop) : D → S → Prop := fun a s1 => match a with | .ref n => Ok (denA F es e s1) (fun ds s2 => Ok (R.of (dspD ks n ds s2)) Q X) X | _ => False
def kDs2 (ks : List Str) (n : Nat) (Q : D → S → Prop) (X : Nat → S → Prop) : List D → S → Prop := fun ds s2 => Ok (R.of (dspD ks n ds s2)) Q X
theorem E_dsp {ks : List Str} {es : Es} : Ok (denE F (.dsp ks es) e s) Q X = Al (.dic []) (kDs1 F ks es e Q X) s := by simp only [denE, Ok_bind]; rfl
theorem kDs1_app {ks : List Str} {es : Es} : kDs1 F ks es e Q X (.ref n) s = Ok (denA F es e s) (kDs2 ks n Q X) X := rfl
theorem kDs2_app {ks : List Str} (h : dcAt s n = some []) (hl : ks.length = ds.length) : kDs2 ks n Q X ds s = Q (.ref n) (s.set n (.dic ((ks.map Sum.inr).zip ds))) := by
  have e1 : dspD ks n ds s = some (.ref n, s.set n (.dic ((ks.map Sum.inr).zip ds))) := by unfold dspD; simp only [h, hl, if_true]
  unfold kDs2; rw [e1]; rfl
/-! many handlers -/
def trnX (F : Fn) (cs : List Nat) (hs : Hs) (N : Env → S → Prop) (x : Xs) : Xs := ⟨x.rt, x.bk, x.ct, fun c' e s => if cs.contains c' then OkS (denHs F hs c' e s) N x else False⟩
theorem trnX_rt {cs : List Nat} {hs : Hs} : (trnX F cs hs N x).rt = x.rt := rfl
theorem trnX_ex {cs : List Nat} {hs : Hs} {c' : Nat} (h : cs.contains c' = true) : (trnX F cs hs N x).ex c' e s = OkS (denHs F hs c' e s) N x := if_pos h
theorem S_tryn {b : B} {cs : List Nat} {hs : Hs} : OkS (denS F (.tryn b cs hs) e s) N x = OkS (denB F b e s) N (trnX F cs hs N x) := by
  simp only [denS]
  cases denB F b e s with
  | ex c' e' s' =>
    show OkS (if cs.contains c' then denHs F hs c' e' s' else .no) N x = (if cs.contains c' then OkS (denHs F hs c' e' s') N x else False)
    split <;> rfl
  | _ => rfl
theorem H_hit {c c' : Nat} {b : B} {r : Hs} (h : subX c' c = true) : OkS (denHs F (.cons c b r) c' e s) N x = OkS (denB F b e s) N x := by simp only [denHs, h, if_true]
theorem H_miss {c c' : Nat} {b : B} {r : Hs} (h : subX c' c = false) : OkS (denHs F (.cons c b r) c' e s) N x = OkS (denHs F r c' e s) N x := by simp only [denHs, h, Bool.false_eq_true, if_false]
theorem H_nil {c' : Nat} : OkS (denHs F .nil c' e s) N x = x.ex c' e s := by simp only [denHs]; rfl
/-! tuples as keys -/
def kTi1 (F : Fn) (neg : Bool) (d : E) (e : Env) (Q : D → S → Prop) (X : Nat → S → Prop) : List D → S → Prop := fun xs s1 => Ok (if xs.length ≤ 1000000 then (denE F d e s1).bind fun y s2 => R.of (inT neg xs y s2) else .no) Q X
def kTi2 (neg : Bool) (xs : List D) (Q : D → S → Prop) (X : Nat → S → Prop) : D → S → Prop := fun y s2 => Ok (R.of (inT neg xs y s2)) Q X
theorem E_tin {neg : Bool} {es : Es} {d : E} : Ok (denE F (.tin neg es d) e s) Q X = Ok (denA F es e s) (kTi1 F neg d e Q X) X := by simp only [denE, Ok_bind]; rfl
theorem T_tin {neg : Bool} {es : Es} {d : E} : Ok (denT F (.tin neg es d) e s) P X = Ok (denA F es e s) (kTi1 F neg d e (kTb P) X) X := by
  simp only [denT]; refine ok_tb.trans ?_; rw [Ok_bind]; rfl
theorem kTi1_app {neg : Bool} {d : E} {xs : List D} (h : xs.length ≤ 1000000) : kTi1 F neg d e Q X xs s = Ok (denE F d e s) (kTi2 neg xs Q X) X := by unfold kTi1; rw [if_pos h, Ok_bind]; rfl
theorem kTi2_app {neg : Bool} {xs : List D} : kTi2 neg xs Q X d s = Ok (R.of (inT neg xs d s)) Q X := rfl
theorem inT_at {neg : Bool} {xs : List D} {kvs : List (List Key × D)} {ks : List Key} (h : dtAt s n = some kvs) (hk : keysOf xs = some ks) (hl : xs.length ≤ 1000000) : inT neg xs (.ref n) s = some (.bl (if neg then !(valD kvs ks).isSome else (valD kvs ks).isSome), s) := by unfold inT; simp only [dtR_of h, hk, hl, if_true]
def kTg1 (F : Fn) (es : Es) (e : Env) (Q : D → S → Prop) (X : Nat → S → Prop) : D → S → Prop := fun y s1 => Ok (denA F es e s1) (fun xs s2 => Ok (R.of (getT y xs s2)) Q X) X
def kTg2 (y : D) (Q : D → S → Prop) (X : Nat → S → Prop) : List D → S → Prop := fun xs s2 => Ok (R.of (getT y xs s2)) Q X
theorem E_tget {es : Es} {d : E} : Ok (denE F (.tget d es) e s) Q X = Ok (denE F d e s) (kTg1 F es e Q X) X := by simp only [denE, Ok_bind]; rfl
theorem kTg1_app {es : Es} : kTg1 F es e Q X d s = Ok (denA F es e s) (kTg2 d Q X) X := rfl
theorem kTg2_app {xs : List D} : kTg2 d Q X xs s = Ok (R.of (getT d xs s)) Q X := rfl
theorem getT_at {xs : List D} {kvs : List (List Key × D)} {ks : List Key} (h : dtAt s n = some kvs) (hk : keysOf xs = some ks) (hl : xs.length ≤ 1000000) (hv : valD kvs ks = some v) : getT (.ref n) xs s = some (v, s) := by unfold getT; simp only [dtR_of h, hk, hl, hv, if_true]
def kTs1 (F : Fn) (d : E) (es : Es) (e : Env) (N : Env → S → Prop) (x : Xs) : D → S → Prop := fun v s1 => Ok (denE F d e s1) (fun y s2 => Ok (denA F es e s2) (fun xs s3 => match setT y xs v s3 with | some s4 => N e s4 | none => False) (kX x e)) (kX x e)
def kTs2 (F : Fn) (es : Es) (v : D) (e : Env) (N : Env → S → Prop) (x : Xs) : D → S → Prop := fun y s2 => Ok (denA F es e s2) (fun xs s3 => match setT y xs v s3 with | some s4 => N e s4 | none => False) (kX x e)
def kTs3 (v y : D) (e : Env) (N : Env → S → Prop) : List D → S → Prop := fun xs s3 => match setT y xs v s3 with | some s4 => N e s4 | none => False
theorem S_tset {d a : E} {es : Es} : OkS (denS F (.tset d es a) e s) N x = Ok (denE F a e s) (kTs1 F d es e N x) (kX x e) := by
  simp only [denS, OkS_st]; congr 1; funext v s; unfold kTs1; congr 1; funext y s2; congr 1; funext xs s3; cases setT y xs v s3 <;> rfl
theorem kTs1_app {d : E} {es : Es} : kTs1 F d es e N x v s = Ok (denE F d e s) (kTs2 F es v e N x) (kX x e) := rfl
theorem kTs2_app {es : Es} : kTs2 F es v e N x d s = Ok (denA F es e s) (kTs3 v d e N) (kX x e) := rfl
theorem kTs3_app {xs : List D} {kvs : List (List Key × D)} {ks : List Key} (h : dtAt s n = some kvs) (hk : keysOf xs = some ks) (hl : xs.length ≤ 1000000) (hl2 : kvs.length < 1000000) : kTs3 v (.ref n) e N xs s = N e (s.set n (.dit (putD kvs ks v))) := by
  have e1 : setT (.ref n) xs v s = some (s.set n (.dit (putD kvs ks v))) := by unfold setT; simp only [h, hk, hl, hl2, and_self, if_true]
  unfold kTs3; simp only [e1]
theorem dtAt_of {kvs : List (List Key × D)} (h : s[n]? = some (.dit kvs)) : dtAt s n = some kvs := by unfold dtAt; simp only [h]
/-! chains -/
def kCh1 (F : Fn) (o1 o2 : COp) (b c : E) (e : Env) (P : Bool → S → Prop) (X : Nat → S → Prop) : D → S → Prop := fun x s => Ok (denE F b e s) (fun y s => Ok (R.of (cop o1 x y s)) (fun z s => match z with | .bl true => Ok (denE F c e s) (kC2 o2 y (kTb P) X) X | .bl false => P false s | _ => False) X) X
def kCh2 (F : Fn) (o1 o2 : COp) (c : E) (x : D) (e : Env) (P : Bool → S → Prop) (X : Nat → S → Prop) : D → S → Prop := fun y s => Ok (R.of (cop o1 x y s)) (fun z s => match z with | .bl true => Ok (denE F c e s) (kC2 o2 y (kTb P) X) X | .bl false => P false s | _ => False) X
def kCh3 (F : Fn) (o2 : COp) (c : E) (y : D) (e : Env) (P : Bool → S → Prop) (X : Nat → S → Prop) : D → S → Prop := fun z s => match z with | .bl true => Ok (denE F c e s) (kC2 o2 y (kTb P) X) X | .bl false => P false s | _ => False
theorem T_chn {o1 o2 : COp} {a b c : E} : Ok (denT F (.chn o1 o2 a b c) e s) P X = Ok (denE F a e s) (kCh1 F o1 o2 b c e P X) X := by
  simp only [denT, Ok_bind]; congr 1; funext x s; unfold kCh1; congr 1; funext y s; congr 1; funext z s
  cases z with
  | bl k =>
    cases k with
    | true =>
      dsimp only
      rw [Ok_bind]; congr 1; funext w s
      rw [Ok_bind]; unfold kC2; congr 1; funext z s; unfold kTb; cases z <;> rfl
    | false => rfl
  | _ => rfl
theorem kCh1_app {o1 o2 : COp} {b c : E} : kCh1 F o1 o2 b c e P X a s = Ok (denE F b e s) (kCh2 F o1 o2 c a e P X) X := rfl
theorem kCh2_app {o1 o2 : COp} {c : E} : kCh2 F o1 o2 c a e P X d s = Ok (R.of (cop o1 a d s)) (kCh3 F o2 c d e P X) X := rfl
theorem kCh3_true {o2 : COp} {c : E} : kCh3 F o2 c d e P X (.bl true) s = Ok (denE F c e s) (kC2 o2 d (kTb P) X) X := rfl
theorem kCh3_false {o2 : COp} {c : E} : kCh3 F o2 c d e P X (.bl false) s = P false s := rfl
theorem kCh3_split {o2 : COp} {c : E} {k : Bool} (h1 : k = true → Ok (denE F c e s) (kC2 o2 d (kTb P) X) X) (h2 : k = false → P false s) : kCh3 F o2 c d e P X (.bl k) s := by
  cases k with
  | true => exact h1 rfl
  | false => exact h2 rfl
theorem E_ccall {c m : Nat} {es : Es} : Ok (denE F (.ccall c m es) e s) Q X = Ok (denA F es e s) (kCall F m Q X) X := by simp only [denE, Ok_bind]; rfl
/-! setdefault, min of three -/
theorem kM_dsetd {es' : Es} {kvs : List (Key × D)} (h : dcAt s n = some kvs) : kM1 F .dsetd es' e Q X (.ref n) s = Ok (denA F es' e s) (kM2 .dsetd (.ref n) Q X) X := kM1_app (rcv_dic h)
theorem dsetd_old {kvs : List (Key × D)} {q : Key} {d2 : D} (h : dcAt s n = some kvs) (hk : keyOf d = some q) (hl : kvs.length < 1000000) (hv : valD kvs q = some v) : mth .dsetd (.ref n) [d, d2] s = some (v, s) := by unfold mth; simp only [h, hk, hv, hl, if_true]
theorem dsetd_new {kvs : List (Key × D)} {q : Key} {d2 : D} (h : dcAt s n = some kvs) (hk : keyOf d = some q) (hl : kvs.length < 1000000) (hv : valD kvs q = none) : mth .dsetd (.ref n) [d, d2] s = some (d2, s.set n (.dic (putD kvs q d2))) := by unfold mth; simp only [h, hk, hv, hl, if_true]
theorem b_min3 : blt .min3 [.int i, .int j, .int k] s = some (.int (min (min i j) k), s) := by
  have : (if k < (if j < i then j else i) then k else (if j < i then j else i)) = min (min i j) k := by
    by_cases h : j < i <;> simp only [h, if_true, if_false] <;> split <;> omega
  rw [← this]; rfl
/-! a, b, .. = a list -/
def kAsl (ts : Tgs) (e : Env) (N : Env → S → Prop) : D → S → Prop := fun d s => match unL s d with | some ds => (match (if ds.length = ts.len then denGs ts ds e else none) with | some e1 => N e1 s | none => False) | none => False
theorem S_asl {ts : Tgs} {a : E} : OkS (denS F (.asl ts a) e s) N x = Ok (denE F a e s) (kAsl ts e N) (kX x e) := by
  simp only [denS, OkS_st]; congr 1; funext d s; unfold kAsl
  cases unL s d with
  | none => rfl
  | some ds =>
    dsimp only
    cases (if ds.length = ts.len then denGs ts ds e else none) <;> rfl
theorem kAsl_app {ts : Tgs} {e1 : Env} (h : lsAt s n = some ds) (hl : ds.length = ts.len) (hg : denGs ts ds e = some e1) : kAsl ts e N (.ref n) s = N e1 s := by
  unfold kAsl unL; simp only [h, hl, if_true, hg]
/-! locked dicts -/
def kUl (n : Nat) (Q : D → S → Prop) : D → S → Prop := fun r s => match unlS n s with | some s3 => Q r s3 | none => False
theorem E_lk {d b : E} {s0 : S} {kvs : List (Key × D)} (hd : denE F d e s = .ok (.ref n) s0) (hn : s[n]? = some (.dic kvs)) : Ok (denE F (.lk d b) e s) Q X = Ok (denE F b e (s.set n (.fzk kvs))) (kUl n Q) fun _ _ => False := by
  simp only [denE, hd]
  have e1 : lckS s (.ref n) = some (n, s.set n (.fzk kvs)) := by unfold lckS; simp only [hn]
  unfold lkE; simp only [e1]
  cases denE F b e (s.set n (.fzk kvs)) with
  | ok r s2 => show Ok (match unlS n s2 with | some s3 => .ok r s3 | none => .no) Q X = kUl n Q r s2; unfold kUl; cases unlS n s2 <;> rfl
  | ex c s2 => rfl
  | no => rfl
theorem E_lkT {d b : E} {s0 : S} {kvs : List (List Key × D)} (hd : denE F d e s = .ok (.ref n) s0) (hn : s[n]? = some (.dit kvs)) : Ok (denE F (.lk d b) e s) Q X = Ok (denE F b e (s.set n (.fzt kvs))) (kUl n Q) fun _ _ => False := by
  simp only [denE, hd]
  have e1 : lckS s (.ref n) = some (n, s.set n (.fzt kvs)) := by unfold lckS; simp only [hn]
  unfold lkE; simp only [e1]
  cases denE F b e (s.set n (.fzt kvs)) with
  | ok r s2 => show Ok (match unlS n s2 with | some s3 => .ok r s3 | none => .no) Q X = kUl n Q r s2; unfold kUl; cases unlS n s2 <;> rfl
  | ex c s2 => rfl
  | no => rfl
theorem kUl_k {d : D} {kvs : List (Key × D)} (h : s[n]? = some (.fzk kvs)) : kUl n Q d s = Q d (s.set n (.dic kvs)) := by unfold kUl unlS; simp only [h]
theorem kUl_t {d : D} {kvs : List (List Key × D)} (h : s[n]? = some (.fzt kvs)) : kUl n Q d s = Q d (s.set n (.dit kvs)) := by unfold kUl unlS; simp only [h]
def kUs (n : Nat) (N : Env → S → Prop) : Env → S → Prop := fun e s => match unlS n s with | some s3 => N e s3 | none => False
def xUs (n : Nat) (x : Xs) : Xs := ⟨kUl n x.rt, kUs n x.bk, kUs n x.ct, fun _ _ _ => False⟩
theorem xUs_rt {n : Nat} : (xUs n x).rt = kUl n x.rt := rfl
theorem OkS_unSR {r : SR} : OkS (unSR n r) N x = OkS r (kUs n N) (xUs n x) := by
  cases r with
  | nx e s => show OkS (match unlS n s with | some s => .nx e s | none => .no) N x = kUs n N e s; unfold kUs; cases unlS n s <;> rfl
  | rt d s => show OkS (match unlS n s with | some s => .rt d s | none => .no) N x = kUl n x.rt d s; unfold kUl; cases unlS n s <;> rfl
  | bk e s => show OkS (match unlS n s with | some s => .bk e s | none => .no) N x = kUs n x.bk e s; unfold kUs; cases unlS n s <;> rfl
  | ct e s => show OkS (match unlS n s with | some s => .ct e s | none => .no) N x = kUs n x.ct e s; unfold kUs; cases unlS n s <;> rfl
  | ex c e s => rfl
  | no => rfl
theorem S_lks {d : E} {c : C} {s0 : S} {kvs : List (Key × D)} (hd : denE F d e s = .ok (.ref n) s0) (hn : s[n]? = some (.dic kvs)) : OkS (denS F (.lks d c) e s) N x = OkS (denS F c e (s.set n (.fzk kvs))) (kUs n N) (xUs n x) := by
  simp only [denS, hd]
  have e1 : lckS s (.ref n) = some (n, s.set n (.fzk kvs)) := by unfold lckS; simp only [hn]
  unfold lkS; simp only [e1]
  exact OkS_unSR
theorem S_lksT {d : E} {c : C} {s0 : S} {kvs : List (List Key × D)} (hd : denE F d e s = .ok (.ref n) s0) (hn : s[n]? = some (.dit kvs)) : OkS (denS F (.lks d c) e s) N x = OkS (denS F c e (s.set n (.fzt kvs))) (kUs n N) (xUs n x) := by
  simp only [denS, hd]
  have e1 : lckS s (.ref n) = some (n, s.set n (.fzt kvs)) := by unfold lckS; simp only [hn]
  unfold lkS; simp only [e1]
  exact OkS_unSR
theorem kUs_k {kvs : List (Key × D)} (h : s[n]? = some (.fzk kvs)) : kUs n N e s = N e (s.set n (.dic kvs)) := by unfold kUs unlS; simp only [h]
theorem kUs_t {kvs : List (List Key × D)} (h : s[n]? = some (.fzt kvs)) : kUs n N e s = N e (s.set n (.dit kvs)) := by unfold kUs unlS; simp only [h]
theorem den_var {i : Nat} (h : e[i]? = some (some d)) : denE F (.var i) e s = .ok d s := by simp only [denE]; unfold gV; rw [h]
theorem den_idx {i : Nat} {z : Int} {v : D} (h : e[i]? = some (some (.tup ds))) (hz : atI ds z = some v) : denE F (.idx (.var i) (.int z)) e s = .ok v s := by
  simp only [denE]; unfold gV; rw [h]; simp only [R.bind_ok, idx_tup, hz]; rfl
theorem lsAt_fz {kvs : List (Key × D)} (h : s[n]? = some (.fzk kvs)) : lsAt s n = none := by unfold lsAt; rw [h]
theorem lsAt_fzt {kvs : List (List Key × D)} (h : s[n]? = some (.fzt kvs)) : lsAt s n = none := by unfold lsAt; rw [h]
theorem dcR_fz {kvs : List (Key × D)} (h : s[n]? = some (.fzk kvs)) : dcR s n = some kvs := by unfold dcR; simp only [h]
theorem dtR_fz {kvs : List (List Key × D)} (h : s[n]? = some (.fzt kvs)) : dtR s n = some kvs := by unfold dtR; simp only [h]
theorem it_fz {kvs : List (Key × D)} (h : s[n]? = some (.fzk kvs)) : itSeq (.ref n) s = .ok (kvs.map fun p => keyR p.1, []) s := by unfold itSeq; simp only [lsAt_fz h, h]
theorem it_fzt {kvs : List (List Key × D)} (h : s[n]? = some (.fzt kvs)) : itSeq (.ref n) s = .ok (kvs.map fun p => .tup (p.1.map keyR), []) s := by unfold itSeq; simp only [lsAt_fzt h, h]
theorem in_fz {kvs : List (Key × D)} {q : Key} {neg : Bool} (h : s[n]? = some (.fzk kvs)) (hk : keyOf d = some q) : in2 neg d (.ref n) s = some (.bl (if neg then !(valD kvs q).isSome else (valD kvs q).isSome), s) := by
  unfold in2; simp only [lsAt_fz h, dcR_fz h, hk]
theorem idx_fzS {kvs : List (Key × D)} {z : Str} (h : s[n]? = some (.fzk kvs)) : idx2 (.ref n) (.str z) s = (valD kvs (.inr z)).map fun d => (d, s) := by
  unfold idx2; simp only [dcR_fz h]; cases valD kvs (.inr z) <;> rfl
theorem idx_fzI {kvs : List (Key × D)} {i : Int} (h : s[n]? = some (.fzk kvs)) : idx2 (.ref n) (.int i) s = (valD kvs (.inl i)).map fun d => (d, s) := by
  unfold idx2; simp only [seqD, lsAt_fz h, dcR_fz h]; cases valD kvs (.inl i) <;> rfl
theorem getT_fz {xs : List D} {kvs : List (List Key × D)} {ks : List Key} (h : s[n]? = some (.fzt kvs)) (hk : keysOf xs = some ks) (hl : xs.length ≤ 1000000) (hv : valD kvs ks = some v) : getT (.ref n) xs s = some (v, s) := by unfold getT; simp only [dtR_fz h, hk, hl, hv, if_true]
theorem fz_back {kvs : List (Key × D)} (h : s[n]? = some (.dic kvs)) : (s.set n (.fzk kvs)).set n (.dic kvs) = s := by
  obtain ⟨hl, h⟩ := List.getElem?_eq_some_iff.mp h
  rw [List.set_set, ← h, List.set_getElem_self]
theorem fzt_back {kvs : List (List Key × D)} (h : s[n]? = some (.dit kvs)) : (s.set n (.fzt kvs)).set n (.dit kvs) = s := by
  obtain ⟨hl, h⟩ := List.getElem?_eq_some_iff.mp h
  rw [List.set_set, ← h, List.set_getElem_self]
end
end T
set_option Elab.async false
set_option linter.all false
set_option maxRecDepth 100000
set_option maxHeartbeats 0
namespace T
open PySem PySem.Spec L2
open PyProof.Rows hiding St
abbrev ex_l_held : List Nat := [8]
theorem all_chk : allChk Tb G ST = true := by decide +kernel
theorem all_plain : plainAll G ST = true := by decide +kernel
theorem exc_ok : excOk Tb = true := by decide +kernel
theorem num_ok : numOk G = true := by decide +kernel
theorem Ob_eq (s : PySem.W.SharedT) : Ob s = Hk.obs s.abs := obsYG_eq (HandSHeadRun.getT_eq s)
end T
set_option maxHeartbeats 4000000
namespace T
open PySem PySem.Spec L2
open PyProof.Rows hiding St
local macro_rules | `(tactic| wp_walk using $[$rs:term],*) => `(tactic| simp only [S_asl, xUs_rt, S_augs, kAs1_app, E_dsp, kDs1_app, trnX_rt, S_tryn, E_tin, T_tin, kTi2_app, E_tget, kTg1_app, kTg2_app, S_tset, kTs1_app, kTs2_app, T_chn, kCh1_app, kCh2_app, kCh3_true, kCh3_false, E_ccall, b_min3, kw_num_text, kw_num_row, kw_num_rec, kw_num_pick, kw_text_num, kw_text_row, kw_text_rec, kw_text_pick, kw_row_num, kw_row_text, kw_row_rec, kw_row_pick, kw_rec_num, kw_rec_text, kw_rec_row, kw_rec_pick, kw_pick_num, kw_pick_text, kw_pick_row, kw_pick_rec, S_tryx, kHx_app, kUn_app, xUn_rt, tryX_rt, S_try2, try2X_rt, S_seta, kSa1_app, S_auga, E_isx, isx_non, E_attr, E_mcall, kMc2_app, E_new, kNew_app, kNi_app, kNw_non, trX_rt, S_raise, S_tryc, S_aug, kAugE_app, kAug_add, kAug_sub, Ok_ok, Ok_ex, OkS_nx, OkS_rt, kX_app, kN_app, xR_rt, xR_ex, kB_app, B_nil, B_cons, kSet_app, S_set, S_setc, S_asg, kAsg_2, kAsg_3, kAsg_4, S_sub, kSub1_app, kSub2_app, kSub3_app, kExp_app, S_exp, S_ret, S_retn, S_pas, S_brk, S_cnt, kIf_true, kIf_false, S_ife, S_for, kFor_app, S_whl, kTb_app, kC1_app, kC2_app, T_cmp, T_val, kNotT_app, T_not, kAndT_true, kAndT_false, T_and, kOrT_true, kOrT_false, T_or, T_one, E_var, E_non, E_bl, E_int, E_str, E_conI, E_conS, k1_app, E_neg, kO1_app, kO2_app, E_bin, E_cmp, E_idx, kAnd_true, kAnd_false, kOr_true, kOr_false, E_and, E_or, E_one, kNot_app, E_not, kIte_true, kIte_false, E_ite, kA1_app, kA2_app, A_nil, A_cons, kTup_app, kLst_app, E_tup, E_lst, E_dk, E_dt, kO_app, O_none, O_some, kS1_app, kS2_app, kS3_app, E_slc, E_rev, E_nset, E_lrg1, E_lrg2, E_lzip, kLz_app, kCall_app, E_call, kBlt_app, E_blt, E_isi, kM_upper, kM_split, kM_sidx, kM_join, kM2_app, E_mth, kW_app, kWs_app, W_seq, W_rng1, W_rng2, W_rng3, W_enum, W_zip, it_tup, it_rol, it_str, kLc_app, kAcc_app, E_lc, C_none, C_some, zs_tup, zs_rol, R.of_some, R.of_none, idx_tup, idx_rol, atI_0, atI_1, atI_2, atI_3, atI_4, atI_5, atI_6, atI_7, Option.map_some, bop_add, bop_sub, bop_mul, bop_fdiv, bop_mod, bop_pow, add_int, sub_int, neg_int, lt_int, le_int, gt_int, ge_int, eq_any, ne_any, is_any, isn_any, in_any, nin_any, bOf_some, is_non, isn_non, is_bl, eq_int, eq_str, eq_bl, eq_nn, eq_tupstr, eq_strtup, len_tup, len_rol, ok_list_tup, b_tuple_tup, b_max2, b_min2, b_int_bl, b_int_int, isi_non, isi_bl, isi_int, isi_str, isi_tup, isi_rol, rcv_str, isT, isNon, slc_tup, rev_tup, Mth.ty, wipeE, len_ns, len_cs, G_nm, Gs_nil, Gs_cons, Option.bind_some, List.set_cons_zero, List.set_cons_succ, List.map_cons, List.map_nil, List.length_cons, List.length_nil, List.replicate_succ, List.replicate_zero, List.cons_append, List.nil_append, List.append_nil, ix10, ix20, ix21, ix30, ix31, ix32, List.set_set, decide_true, decide_false, Bool.not_true, Bool.not_false, Nat.reduceSub, Nat.reduceAdd, Nat.reduceLeDiff, Int.cast_ofNat_Int, Int.natCast_zero, Int.natCast_one, Int.reduceBEq, Int.reduceLT, Int.reduceLE, Int.reduceAdd, Int.reduceSub, Int.reduceMul, Int.reduceNeg, Int.reduceDiv, Int.reduceMod, Int.zero_add, beq_self_eq_true, true_and, and_true, and_self, gV_0, gV_1, gV_2, gV_3, gV_4, gV_5, gV_6, gV_7, gV_8, gV_9, gV_10, gV_11, gV_12, gV_13, gV_14, gV_15, gV_16, gV_17, gV_18, gV_19, gV_20, gV_21, gV_22, gV_23, $[$rs:term],*])
/-! TC0: stores that grow, things of any kind. -/
theorem Ok.eq {α : Type} {r : R α} {a : α} {s : S} (h : Ok r (fun b t => b = a ∧ t = s) fun _ _ => False) : r = .ok a s := by
  obtain ⟨b, t, e, rfl, rfl⟩ := h.elim
  exact e
theorem Ok.of_eq {α : Type} {r : R α} {a : α} {s : S} {Q : α → S → Prop} {X : Nat → S → Prop} (e : r = .ok a s) (h : Q a s) : Ok r Q X := by rw [e]; exact h
/-- all but what stands at the places W is as it was -/
structure Fr (W : List Nat) (s s' : S) : Prop where
  len : s.length ≤ s'.length
  keep : ∀ (i : Nat) (o : O), i ∉ W → s[i]? = some o → s'[i]? = some o
section
variable {W W' : List Nat} {s s' s1 s2 : S} {n k : Nat} {o : O} {ds : List D}
theorem Fr.refl : Fr W s s := ⟨Nat.le_refl _, fun _ _ _ h => h⟩
theorem Fr.trans (a : Fr W s s1) (b : Fr W s1 s2) : Fr W s s2 := ⟨Nat.le_trans a.len b.len, fun i o h e => b.keep i o h (a.keep i o h e)⟩
theorem Fr.mono (a : Fr W s s') (h : ∀ i ∈ W, i ∈ W') : Fr W' s s' := ⟨a.len, fun i o hi e => a.keep i o (fun q => hi (h i q)) e⟩
theorem Fr.nil (a : Fr [] s s') : Fr W s s' := a.mono fun i h => by cases h
theorem Fr.push : Fr W s (s ++ [o]) := ⟨by simp, fun i u _ h => by rw [List.getElem?_append_left (List.getElem?_eq_some_iff.mp h).1]; exact h⟩
theorem Fr.set (h : n ∈ W) : Fr W s (s.set n o) := ⟨by simp, fun i u hi e => by rw [List.getElem?_set_ne (fun q => hi (by subst q; exact h))]; exact e⟩
/-- a thing made since is written -/
theorem Fr.new (a : Fr W s s') (h : s.length ≤ n) : Fr W s (s'.set n o) := ⟨by simp; exact a.len, fun i u hi e => by
  have := (List.getElem?_eq_some_iff.mp e).1
  rw [List.getElem?_set_ne (by omega)]; exact a.keep i u hi e⟩
theorem Fr.ls (a : Fr W s s') (hn : n ∉ W) (h : lsAt s n = some ds) : lsAt s' n = some ds := lsAt_of (a.keep n _ hn (lsAt_some h))
/-- what is written since may count as kept -/
theorem Fr.drop (a : Fr (n :: W) s s') (h : s.length ≤ n) : Fr W s s' := ⟨a.len, fun i o hi e => by
  have := (List.getElem?_eq_some_iff.mp e).1
  exact a.keep i o (by simp only [List.mem_cons, not_or]; exact ⟨by omega, hi⟩) e⟩
end
/-- anything m deep: texts, tuples, ints bounded by c, lists and dicts that stand beside W -/
inductive Any (c : Nat) (W : List Nat) (s : S) : Nat → D → Prop
  | non {m : Nat} : Any c W s m .non
  | bl {m : Nat} (b : Bool) : Any c W s m (.bl b)
  | int {m : Nat} {i : Int} : i.natAbs < 2 ^ c → Any c W s m (.int i)
  | str {m : Nat} {x : Str} : x.length ≤ c → Any c W s m (.str x)
  | tup {m : Nat} {ds : List D} : ds.length ≤ c → (∀ d ∈ ds, Any c W s m d) → Any c W s (m + 1) (.tup ds)
  | lst {m n : Nat} {ds : List D} : n ∉ W → lsAt s n = some ds → Any c W s m (.ref n)
  | dic {m n : Nat} {kvs : List (Key × D)} : n ∉ W → s[n]? = some (.dic kvs) → Any c W s m (.ref n)
theorem Any.mono {c c' : Nat} {W W' : List Nat} {s s' : S} (f : Fr W s s') (hc : c ≤ c') (hW : ∀ i ∈ W', i ∈ W) {m : Nat} {d : D} (h : Any c W s m d) : Any c' W' s' m d := by
  induction h with
  | non => exact .non
  | bl b => exact .bl b
  | int h => exact .int (Nat.lt_of_lt_of_le h (Nat.pow_le_pow_right (by decide) hc))
  | str h => exact .str (Nat.le_trans h hc)
  | tup h _ ih => exact .tup (Nat.le_trans h hc) ih
  | lst hn h => exact .lst (fun z => hn (hW _ z)) (f.ls hn h)
  | dic hn h => exact .dic (fun z => hn (hW _ z)) (f.keep _ _ hn h)
theorem Any.fr {c : Nat} {W : List Nat} {s s' : S} (f : Fr W s s') {m : Nat} {d : D} (h : Any c W s m d) : Any c W s' m d := h.mono f (Nat.le_refl _) fun _ h => h
theorem Any.le {c c' : Nat} {W : List Nat} {s : S} (hc : c ≤ c') {m : Nat} {d : D} (h : Any c W s m d) : Any c' W s m d := h.mono Fr.refl hc fun _ h => h
theorem Any.deep {c : Nat} {W : List Nat} {s : S} {m : Nat} {d : D} (h : Any c W s m d) : ∀ {m' : Nat}, m ≤ m' → Any c W s m' d := by
  induction h with
  | non => exact fun _ => .non
  | bl b => exact fun _ => .bl b
  | int h => exact fun _ => .int h
  | str h => exact fun _ => .str h
  | tup h _ ih =>
    intro m' hm
    cases m' with
    | zero => omega
    | succ m' => exact .tup h fun d hd => ih d hd (by omega)
  | lst hn h => exact fun _ => .lst hn h
  | dic hn h => exact fun _ => .dic hn h
theorem Any.push {c : Nat} {W : List Nat} {s : S} {o : O} {m : Nat} {d : D} (h : Any c W s m d) : Any c W (s ++ [o]) m d := h.fr Fr.push
/-- whether it is that text -/
def isS (w : Str) : D → Bool
  | .str x => w == x
  | _ => false
section
variable {c m : Nat} {W : List Nat} {s : S} {n : Nat} {d : D} {w : Str}
theorem eqD_strA (h : Any c W s m d) : eqD s (n + 1) (.str w) d = some (isS w d) := by
  cases h with
  | lst hn h => simp only [eqD, vw, lsAt_some h]; rfl
  | dic hn h => simp only [eqD, vw, h]; rfl
  | _ => rfl
theorem inL_cons {f : D → D → Option Bool} {y : D} {ys : List D} {a b : Bool} (h1 : f y d = some a) (h2 : inL f d ys = some b) : inL f d (y :: ys) = some (a || b) := by
  unfold inL; simp only [h1, h2]
def isSs (ws : List Str) (d : D) : Bool := ws.any fun w => isS w d
theorem inL_strs (h : Any c W s m d) : ∀ ws : List Str, inL (eqD s (n + 1)) d (ws.map D.str) = some (isSs ws d)
  | [] => rfl
  | w :: ws => by
    rw [List.map_cons, inL_cons (eqD_strA h) (inL_strs h ws)]; rfl
theorem in_strs (ws : List Str) (h : Any c W s m d) : in2 false d (.tup (ws.map D.str)) s = some (.bl (isSs ws d), s) := by
  unfold in2; simp only; rw [inL_strs h]; rfl
theorem isi_dic {t : Ty} {kvs : List (Key × D)} (h : s[n]? = some (.dic kvs)) : isi t (.ref n) s = some (.bl (isT .dic t), s) := by unfold isi tyD; simp only [h]
end
/-! loops by the number of the turn -/
section
variable {gs : Gs} {g : D → Env → Option Env} {body : Env → S → SR} {x : Xs} {N : Env → S → Prop} {e : Env} {s : S}
theorem drop_cons {α : Type} {ds r : List α} {d : α} {i : Nat} (h : ds.drop i = d :: r) : ds[i]? = some d ∧ ds.drop (i + 1) = r := by
  have h1 : (ds.drop i)[0]? = some d := by rw [h]; rfl
  rw [List.getElem?_drop] at h1
  refine ⟨h1, ?_⟩
  rw [← List.drop_drop, h]; rfl
theorem loopAt (ds : List D) (I : Nat → Env → S → Prop) (h0 : I 0 e s) (hg : ∀ i e s, I i e s → Grd gs s)
    (hs : ∀ i d e s, ds[i]? = some d → I i e s → ∃ e1, g d e = some e1 ∧ OkS (body e1 s) (I (i + 1)) { x with bk := N, ct := I (i + 1) }) (hd : ∀ e s, I ds.length e s → N e s) : OkS (loopF gs g body ds e s) N x := by
  refine OkS_loopF (I := fun r e s => ∃ i, i ≤ ds.length ∧ r = ds.drop i ∧ I i e s) ?_ ?_ ?_ ds e s ⟨0, Nat.zero_le _, rfl, h0⟩
  · rintro r e s ⟨i, _, _, h⟩; exact hg i e s h
  · rintro d r e s ⟨i, hi, hr, h⟩
    obtain ⟨h1, h2⟩ := drop_cons hr.symm
    have hl := (List.getElem?_eq_some_iff.mp h1).1
    obtain ⟨e1, h3, h4⟩ := hs i d e s h1 h
    have nx : ∀ e s, I (i + 1) e s → ∃ i, i ≤ ds.length ∧ r = ds.drop i ∧ I i e s := fun e s h => ⟨i + 1, hl, h2.symm, h⟩
    exact ⟨e1, h3, h4.imp nx (fun _ _ h => h) (fun _ _ h => h) nx fun _ _ _ h => h⟩
  · rintro e s ⟨i, hi, hr, h⟩
    have : ds.length ≤ i := by rw [← List.drop_eq_nil_iff]; exact hr.symm
    have : i = ds.length := by omega
    subst this
    exact hd e s h
theorem compAt {tst : Env → S → R Bool} {elt : Env → S → R D} {Q : List D → S → Prop} (ds : List D) (I : Nat → List D → S → Prop) (h0 : I 0 [] s) (hg : ∀ i acc s, I i acc s → Grd gs s)
    (hs : ∀ i d acc s, ds[i]? = some d → I i acc s → acc.length < 1000000 ∧ ∃ e1, g d e = some e1 ∧ Ok (tst e1 s) (fun b s1 => (b = true → Ok (elt e1 s1) (fun y s2 => I (i + 1) (acc ++ [y]) s2) fun _ _ => False) ∧ (b = false → I (i + 1) acc s1)) fun _ _ => False)
    (hd : ∀ acc s, I ds.length acc s → Q acc s) : OkC (loopC gs g tst elt e ds [] s) Q := by
  refine OkC_loopC (I := fun r acc s => ∃ i, i ≤ ds.length ∧ r = ds.drop i ∧ I i acc s) ?_ ?_ ?_ ds [] s ⟨0, Nat.zero_le _, rfl, h0⟩
  · rintro r acc s ⟨i, _, _, h⟩; exact hg i acc s h
  · rintro d r acc s ⟨i, hi, hr, h⟩
    obtain ⟨h1, h2⟩ := drop_cons hr.symm
    have hl := (List.getElem?_eq_some_iff.mp h1).1
    obtain ⟨h5, e1, h3, h4⟩ := hs i d acc s h1 h
    have nx : ∀ acc s, I (i + 1) acc s → ∃ i, i ≤ ds.length ∧ r = ds.drop i ∧ I i acc s := fun e s h => ⟨i + 1, hl, h2.symm, h⟩
    refine ⟨h5, e1, h3, h4.imp (fun b s1 h6 => ⟨fun hb => (h6.1 hb).imp (fun y s2 => nx _ _) (fun _ _ h => h), fun hb => nx _ _ (h6.2 hb)⟩) fun _ _ h => h⟩
  · rintro acc s ⟨i, hi, hr, h⟩
    have : ds.length ≤ i := by rw [← List.drop_eq_nil_iff]; exact hr.symm
    have : i = ds.length := by omega
    subst this
    exact hd acc s h
/-- a comprehension without a test -/
theorem compAll {F : Fn} {elt : Env → S → R D} {Q : List D → S → Prop} (ds : List D) (I : Nat → List D → S → Prop) (h0 : I 0 [] s) (hg : ∀ i acc s, I i acc s → Grd gs s) (hl : ds.length < 1000000)
    (hs : ∀ i d acc s, ds[i]? = some d → acc.length = i → I i acc s → ∃ e1, g d e = some e1 ∧ Ok (elt e1 s) (fun y s2 => I (i + 1) (acc ++ [y]) s2) fun _ _ => False)
    (hd : ∀ acc s, acc.length = ds.length → I ds.length acc s → Q acc s) : OkC (loopC gs g (denC F .none) elt e ds [] s) Q := by
  refine compAt ds (fun i acc s => acc.length = i ∧ I i acc s) ⟨rfl, h0⟩ (fun i acc s h => hg i acc s h.2) (fun i d acc s hi h => ?_) fun acc s h => hd acc s h.1 h.2
  have := (List.getElem?_eq_some_iff.mp hi).1
  obtain ⟨e1, h1, h2⟩ := hs i d acc s hi h.1 h.2
  refine ⟨by omega, e1, h1, ?_⟩
  rw [C_none]
  exact ⟨fun _ => h2.imp (fun y s2 h3 => ⟨by simp [h.1], h3⟩) fun _ _ h => h, fun hb => by cases hb⟩
theorem rng_at {lo : Int} {n i : Nat} {d : D} (h : (rngD lo 1 n)[i]? = some d) : i < n ∧ d = .int (lo + i) := by
  unfold rngD at h
  rw [List.getElem?_map] at h
  have hl : i < n := by
    by_cases hi : i < n
    · exact hi
    · rw [List.getElem?_eq_none (by simp; omega)] at h; cases h
  rw [List.getElem?_range hl] at h
  simp only [Option.map_some, Option.some.injEq] at h
  exact ⟨hl, by rw [← h, Int.mul_one]⟩
theorem rng_len {lo : Int} {n : Nat} : (rngD lo 1 n).length = n := by simp [rngD]
end
/-! a new object -/
theorem Al_ok {o : O} {s : S} {Q : D → S → Prop} (h : ∀ k s', s.length ≤ k → s'[k]? = some o → Fr [] s s' → Q (.ref k) s') : Al o Q s :=
  h _ _ (Nat.le_refl _) (by rw [List.getElem?_append_right (Nat.le_refl _)]; simp) Fr.push
theorem Al_lst {ds : List D} {s : S} {Q : D → S → Prop} (h : ∀ k s', s.length ≤ k → lsAt s' k = some ds → Fr [] s s' → Q (.ref k) s') : Al (.lst ds) Q s := Al_ok fun k s' h1 h2 h3 => h k s' h1 (lsAt_of h2) h3
theorem Any.mv0 {c : Nat} {W : List Nat} {s s' : S} {m : Nat} {d : D} (h : Any c W s m d) (f : Fr [] s s') : Any c W s' m d := h.fr f.nil
theorem Fr.mv0 {W : List Nat} {s s1 s2 : S} (h : Fr W s s1) (f : Fr [] s1 s2) : Fr W s s2 := h.trans f.nil
/-! an item of a list, a tuple -/
theorem pickL {s : S} {n : Nat} {ds : List D} {i : Int} {Q : D → S → Prop} {X : Nat → S → Prop} (h : lsAt s n = some ds) (h0 : 0 ≤ i) (h1 : i < ds.length) (hq : ∀ d ∈ ds, Q d s) : Ok (R.of (idx2 (.ref n) (.int i) s)) Q X := by
  rw [idx_ref h, atI_lt h0 h1]
  have hl : i.toNat < ds.length := by omega
  rw [List.getElem?_eq_getElem hl]
  exact hq _ (List.getElem_mem hl)
/-! cuts -/
theorem str_len {x : Str} : x.length = x.cps.toList.length := by simp [Str.length]
/-! the flow of draws -/
section
variable {W : List Nat} {s s' : S} {n : Nat} {Q : D → S → Prop}
/-! writing to lists of one's own -/
variable {X : Nat → S → Prop} {kn k : Nat} {ds es : List D} {d : D}
end
/-! TXt: texts, names. -/
/-! texts by their codes -/
abbrev cd (x : Str) : List Nat := x.cps.toList
section
variable {x y : Str} {i : Int} {s : S}
theorem cd_app : cd (x ++ y) = cd x ++ cd y := by
  show (x.cps ++ y.cps).toList = _; rw [Array.toList_append]
theorem cd_len : x.length = (cd x).length := str_len
theorem cd_inj (h : cd x = cd y) : x = y := by cases x; cases y; simp only [Str.mk.injEq]; exact Array.toList_inj.mp h
end
/-- a name: one to eight small letters -/
def small (c : Nat) : Prop := 97 ≤ c ∧ c ≤ 122
instance : DecidablePred small := fun c => inferInstanceAs (Decidable (_ ∧ _))
structure Nm (x : Str) : Prop where
  pos : 1 ≤ (cd x).length
  le : (cd x).length ≤ 8
  all : ∀ c ∈ cd x, small c
theorem inL_str {s : S} {n : Nat} {x : Str} : ∀ ws : List Str, inL (eqD s (n + 1)) (.str x) (ws.map D.str) = some (decide (x ∈ ws))
  | [] => rfl
  | w :: ws => by
    rw [List.map_cons, inL_cons (show eqD s (n + 1) (.str w) (.str x) = some (w == x) from rfl) (inL_str ws)]
    simp only [Option.some.injEq, List.mem_cons]
    rw [Bool.eq_iff_iff]
    simp only [Bool.or_eq_true, beq_iff_eq, decide_eq_true_eq]
    constructor
    · rintro (rfl | h); exact .inl rfl; exact .inr h
    · rintro (rfl | h); exact .inl rfl; exact .inr h
theorem in_names {s : S} {n : Nat} {x : Str} {ws : List Str} (h : lsAt s n = some (ws.map D.str)) : in2 false (.str x) (.ref n) s = some (.bl (decide (x ∈ ws)), s) := by
  unfold in2; simp only [h]; rw [inL_str]; rfl
section
variable {s : S} {Q : D → S → Prop} {X : Nat → S → Prop}
theorem blsOf_map : ∀ bs : List Bool, blsOf (bs.map D.bl) = some bs
  | [] => rfl
  | b :: bs => by rw [List.map_cons]; unfold blsOf; rw [blsOf_map bs]; rfl
theorem all_ref {n : Nat} {bs : List Bool} (h : lsAt s n = some (bs.map D.bl)) : blt .all [.ref n] s = some (.bl (bs.all id), s) := by
  unfold blt; simp only [seqD, h, blsOf_map]
end
/-! TKd: kinds. -/
def fld (f : Str × D) : D := .tup [.str f.1, f.2]
/-- a kind at most so deep, with at most M fields in each rec and pick -/
inductive Kd (M : Nat) : Nat → D → Prop
  | num {n : Nat} {w : Int} : 1 ≤ w → w ≤ 4 → Kd M (n + 1) (.tup [.str "num", .int w])
  | text {n : Nat} : Kd M (n + 1) (.tup [.str "text"])
  | row {n : Nat} {k : D} : Kd M n k → Kd M (n + 1) (.tup [.str "row", k])
  | fields {n : Nat} {w : Str} {fs : List (Str × D)} : w = "rec" ∨ w = "pick" → 1 ≤ fs.length → fs.length ≤ M → (fs.map (·.1)).Nodup → (∀ f ∈ fs, Nm f.1) → (∀ f ∈ fs, Kd M n f.2) → Kd M (n + 1) (.tup [.str w, .tup (fs.map fld)])
theorem Kd.deep {M : Nat} {n : Nat} {d : D} (h : Kd M n d) : ∀ {m : Nat}, n ≤ m → Kd M m d := by
  induction h with
  | num h1 h2 => intro m hm; cases m with | zero => omega | succ m => exact .num h1 h2
  | text => intro m hm; cases m with | zero => omega | succ m => exact .text
  | row _ ih => intro m hm; cases m with | zero => omega | succ m => exact .row (ih (by omega))
  | fields h1 h2 h3 h4 h5 _ ih => intro m hm; cases m with | zero => omega | succ m => exact .fields h1 h2 h3 h4 h5 fun f hf => ih f hf (by omega)
/-! TSz: sizes. -/
def fsOf : D → List (Str × D)
  | .tup ds => ds.filterMap fun d => match d with
    | .tup [.str x, k] => some (x, k)
    | _ => none
  | _ => []
theorem fsOf_fld : ∀ fs : List (Str × D), fsOf (.tup (fs.map fld)) = fs
  | [] => rfl
  | f :: fs => by
    have := fsOf_fld fs
    simp only [fsOf] at this ⊢
    rw [List.map_cons, List.filterMap_cons, this]; rfl
def mx : List Int → Int
  | [] => 0
  | a :: r => maxI a r
section
variable {M n : Nat}
theorem mx_mem : ∀ {l : List Int}, l ≠ [] → mx l ∈ l
  | [], h => absurd rfl h
  | a :: r, _ => (maxI_spec a r).1
theorem mx_le {l : List Int} {z : Int} (h : z ∈ l) : z ≤ mx l := by
  cases l with
  | nil => cases h
  | cons a r => exact (maxI_spec a r).2 z h
end
/-! TCh: signs, whole numbers. -/
theorem nin_sign {s : S} {c : Nat} {z : Str} : in2 true (sgn c) (.str z) s = some (.bl (!decide (c ∈ cd z)), s) := rfl
section
variable {k n : Nat} {s : S} {Q : D → S → Prop} {X : Nat → S → Prop} {c m : Nat} {W : List Nat} {d : D}
theorem is_whole_eq (h : Any c W s m d) : callK G (k + 1) i_is_whole [d] s = .ok (.bl (match d with | .int _ => true | _ => false)) s := by
  refine Ok.eq ?_
  rw [Ok_call G_is_whole]
  unfold d_is_whole
  cases h with
  | lst hn h => (wp_walk using isi_ref h)
  | dic hn h => (wp_walk using isi_dic h)
  | _ => (wp_walk using Ok_ok)
end
/-! TCi: what is a kind. -/
def nameB (x : Str) : Bool := decide (1 ≤ (cd x).length) && decide ((cd x).length ≤ 8) && (cd x).all fun c => decide (small c)
theorem nameB_nm {x : Str} : nameB x = true ↔ Nm x := by
  unfold nameB
  simp only [Bool.and_eq_true, decide_eq_true_eq, List.all_eq_true]
  exact ⟨fun ⟨⟨a, b⟩, c⟩ => ⟨a, b, c⟩, fun h => ⟨⟨h.pos, h.le⟩, h.all⟩⟩
def nameD : D → Bool
  | .str x => nameB x
  | _ => false
theorem letters_iff (c : Nat) : c ∈ cd "abcdefghijklmnopqrstuvwxyz" ↔ small c := by
  constructor
  · have h : ∀ c ∈ cd "abcdefghijklmnopqrstuvwxyz", small c := by decide
    exact h c
  · intro h
    have h2 : ∀ c, c < 123 → 97 ≤ c → c ∈ cd "abcdefghijklmnopqrstuvwxyz" := by decide
    exact h2 c (by have := h.2; omega) h.1
/-- the fields' depths, none where one is no field -/
def scanF (f : D → Int) : List Str → List D → Option (List Int)
  | _, [] => some []
  | seen, d :: r => match d with
    | .tup [.str x, k] => if nameB x && !decide (x ∈ seen) then (scanF f (seen ++ [x]) r).map (f k :: ·) else none
    | _ => none
def fieldsZ : Option (List Int) → Int
  | some zs => if zs = [] ∨ 0 ∈ zs then 0 else 1 + mx zs
  | none => 0
def numZ : D → Int
  | .int i => if 1 ≤ i ∧ i ≤ 4 then 1 else 0
  | _ => 0
def rowZ (z : Int) : Int := if z = 0 then 0 else 1 + z
def fsZ (f : D → Int) : D → Int
  | .tup fs => if fs.length < 7 then fieldsZ (scanF f [] fs) else 0
  | _ => 0
def tagZ (f : D → Int) (w : Str) (d : D) : Int :=
  if w = "num" then numZ d else if w = "row" then rowZ (f d) else if w = "rec" ∨ w = "pick" then fsZ f d else 0
/-- a kind's depth, 0 of what is none -/
def depF : Nat → D → Int
  | 0, _ => 0
  | n + 1, .tup [.str w] => if w = "text" then 1 else 0
  | n + 1, .tup [.str w, d] => tagZ (depF n) w d
  | _ + 1, _ => 0
def inR (dd z : Int) : Bool := decide (0 < z) && decide (z ≤ dd)
def fieldsB (f : D → Int) (dd : Int) (seen : List Str) (r : List D) : Bool := match scanF f seen r with
  | some zs => zs.all (inR dd)
  | none => false
theorem fieldsB_nil {f : D → Int} {dd : Int} {seen : List Str} : fieldsB f dd seen [] = true := rfl
theorem fieldsB_cons {f : D → Int} {dd : Int} {seen : List Str} {x : Str} {k : D} {r : List D} : fieldsB f dd seen (.tup [.str x, k] :: r) = (nameB x && !decide (x ∈ seen) && inR dd (f k) && fieldsB f dd (seen ++ [x]) r) := by
  unfold fieldsB
  simp only [scanF]
  by_cases h : (nameB x && !decide (x ∈ seen)) = true
  · rw [if_pos h, h]
    cases scanF f (seen ++ [x]) r with
    | none => simp
    | some zs => simp [Option.map]
  · rw [if_neg h]
    have : (nameB x && !decide (x ∈ seen)) = false := by simpa using h
    rw [this]; simp
theorem fieldsB_bad {f : D → Int} {dd : Int} {seen : List Str} {d : D} {r : List D} (h : ∀ x k, d ≠ .tup [.str x, k]) : fieldsB f dd seen (d :: r) = false := by
  unfold fieldsB
  have : scanF f seen (d :: r) = none := by
    unfold scanF
    split
    · exact absurd rfl (h _ _)
    · rfl
  rw [this]
section
variable {k n : Nat} {s : S} {Q : D → S → Prop} {X : Nat → S → Prop} {c m : Nat} {W : List Nat} {d : D}
theorem maxI_nn {l : List Int} (h : ∀ z ∈ l, 0 ≤ z) : 0 ≤ mx l := by
  cases l with
  | nil => exact Int.le_refl 0
  | cons a r => exact h _ (mx_mem (by simp))
theorem scan_nn {f : D → Int} (hf : ∀ d, 0 ≤ f d) : ∀ (fs : List D) (seen : List Str) (zs : List Int), scanF f seen fs = some zs → ∀ z ∈ zs, 0 ≤ z
  | [], seen, zs, h => by simp only [scanF, Option.some.injEq] at h; subst h; simp
  | d :: r, seen, zs, h => by
    unfold scanF at h
    split at h
    · split at h
      · rw [Option.map_eq_some_iff] at h
        obtain ⟨w, h1, rfl⟩ := h
        intro z hz
        rcases List.mem_cons.mp hz with rfl | hz
        · exact hf _
        · exact scan_nn hf r _ _ h1 z hz
      · cases h
    · cases h
theorem fieldsZ_nn {f : D → Int} (hf : ∀ d, 0 ≤ f d) (seen : List Str) (fs : List D) : 0 ≤ fieldsZ (scanF f seen fs) := by
  cases h : scanF f seen fs with
  | none => exact Int.le_refl 0
  | some zs =>
    have := maxI_nn (scan_nn hf _ _ _ h)
    unfold fieldsZ; dsimp only; split <;> omega
theorem tagZ_nn {f : D → Int} (hf : ∀ d, 0 ≤ f d) (w : Str) (d : D) : 0 ≤ tagZ f w d := by
  unfold tagZ
  split
  · unfold numZ; split
    · split <;> omega
    · omega
  · split
    · have := hf d; unfold rowZ; split <;> omega
    · split
      · unfold fsZ; split
        · split
          · exact fieldsZ_nn hf _ _
          · omega
        · omega
      · omega
theorem depF_nn : ∀ (n : Nat) (d : D), 0 ≤ depF n d
  | 0, d => by unfold depF; exact Int.le_refl 0
  | n + 1, d => by
    unfold depF
    split
    · omega
    · split <;> omega
    · rename_i e
      cases e
      exact tagZ_nn (depF_nn n) _ _
    · omega
theorem all_inR {zs : List Int} {dd : Int} (hn : ∀ z ∈ zs, 0 ≤ z) (hne : zs ≠ []) : zs.all (inR (dd - 1)) = inR dd (fieldsZ (some zs)) := by
  unfold fieldsZ
  rw [Bool.eq_iff_iff, List.all_eq_true]
  simp only [inR, Bool.and_eq_true, decide_eq_true_eq]
  by_cases h0 : (0 : Int) ∈ zs
  · rw [if_pos (.inr h0)]
    exact ⟨fun h => by have := (h 0 h0).1; omega, fun h => by omega⟩
  · rw [if_neg (by simp [hne, h0])]
    constructor
    · intro h
      have h1 := h _ (mx_mem hne)
      omega
    · intro h z hz
      have h1 := mx_le hz
      have h2 := hn z hz
      have : z ≠ 0 := fun e => h0 (e ▸ hz)
      omega
theorem inR_lt {dd z : Int} (h : dd < 1) : inR dd z = false := by
  unfold inR
  rw [Bool.and_eq_false_iff]
  simp only [decide_eq_false_iff_not]
  omega
theorem rowZ_inR {z dd : Int} (h : 0 ≤ z) : inR dd (rowZ z) = inR (dd - 1) z := by
  rw [Bool.eq_iff_iff]
  simp only [inR, Bool.and_eq_true, decide_eq_true_eq]
  by_cases hz : z = 0
  · rw [show rowZ z = 0 from if_pos hz]; omega
  · rw [show rowZ z = 1 + z from if_neg hz]; omega
theorem inR_0 {dd : Int} : inR dd 0 = false := by simp [inR]
theorem depF_tup {n : Nat} {ds : List D} (h : ¬ ∃ w, ds = [.str w]) (h2 : ¬ ∃ w d, ds = [.str w, d]) : depF (n + 1) (.tup ds) = 0 := by
  unfold depF
  split
  · omega
  · rename_i e; cases e; exact absurd ⟨_, rfl⟩ h
  · rename_i e; cases e; exact absurd ⟨_, _, rfl⟩ h2
  · rfl
end
/-! TWt: worths, and worths drawn. -/
def span (w : Int) : Int := 65536 ^ w.toNat
def half (w : Int) : Int := span w / 2
/-- a sign of the texts -/
def Sg (c : Nat) : Prop := c ∈ cd " !\"#$&'()*+,-./0123456789:;<=>?@ABCDEFGHIJKLMNOPQRSTUVWXYZ[\\]^_`abcdefghijklmnopqrstuvwxyz{|}~"
/-- a thing of a kind -/
inductive Wt : D → D → Prop
  | num {w i : Int} : 1 ≤ w → w ≤ 4 → -(half w) ≤ i → i < half w → Wt (.tup [.str "num", .int w]) (.int i)
  | text {x : Str} : x.length ≤ 60 → (∀ c ∈ cd x, Sg c) → Wt (.tup [.str "text"]) (.str x)
  | row {k : D} {ds : List D} : ds.length ≤ 60 → (∀ d ∈ ds, Wt k d) → Wt (.tup [.str "row", k]) (.tup ds)
  | recd {fs : List (Str × D)} {ds : List D} : ds.length = fs.length → (∀ (i : Nat) (f : Str × D) (d : D), fs[i]? = some f → ds[i]? = some d → Wt f.2 d) → Wt (.tup [.str "rec", .tup (fs.map fld)]) (.tup ds)
  | pick {fs : List (Str × D)} {f : Str × D} {d : D} : f ∈ fs → Wt f.2 d → Wt (.tup [.str "pick", .tup (fs.map fld)]) (.tup [.str f.1, d])
/-! TWi: what is a worth of a kind. -/
instance : DecidablePred Sg := fun c => inferInstanceAs (Decidable (_ ∈ _))
/-! TPi: layings; what k13 .. k12 draw. -/
section
variable {L n : Nat} {s : S} {Q : D → S → Prop} {X : Nat → S → Prop} {W : List Nat}
/-- what is written since is none of the old -/
theorem Fr.since {rm : Nat} {s0 s1 s' : S} (a : Fr [n] s0 s1) (b : Fr [n, rm] s1 s') (h : s0.length ≤ rm) : Fr [n] s0 s' := ⟨Nat.le_trans a.len b.len, fun i o hi e => by
  have := (List.getElem?_eq_some_iff.mp e).1
  exact b.keep i o (by simp only [List.mem_cons, List.not_mem_nil, or_false, not_or]; exact ⟨by simpa using hi, by omega⟩) (a.keep i o hi e)⟩
end
/-! TPk: paths along kinds. -/
/-- where the field stands whose name the step is -/
def pAt (fs : List (Str × D)) (st : D) : Option Nat := fs.findIdx? fun f => isS f.1 st
def fget (fs : List (Str × D)) (st : D) : Option D := (pAt fs st).bind fun i => fs[i]?.map (·.2)
/-- one step along a kind -/
def stepW (w : Str) (x st : D) : Option D := if w = "row" then (match st with | .int i => if 0 ≤ i ∧ i < 60 then some x else none | _ => none) else if w = "num" then none else fget (fsOf x) st
def stepK (kd st : D) : Option D := match kd with
  | .tup [.str w, x] => stepW w x st
  | _ => none
theorem stepK_row {k : D} {i : Int} : stepK (.tup [.str "row", k]) (.int i) = if 0 ≤ i ∧ i < 60 then some k else none := rfl
theorem stepK_fld {w : Str} {fs : List (Str × D)} {st : D} (hw : w = "rec" ∨ w = "pick") : stepK (.tup [.str w, .tup (fs.map fld)]) st = fget fs st := by
  have e1 : w ≠ "row" := by rcases hw with rfl | rfl <;> decide
  have e2 : w ≠ "num" := by rcases hw with rfl | rfl <;> decide
  show stepW _ _ _ = _
  unfold stepW; simp only [e1, e2, if_false, fsOf_fld]
theorem pAt_some {fs : List (Str × D)} {st : D} {i : Nat} {g : Str × D} (hg : fs[i]? = some g) (h : isS g.1 st = true) (ha : ∀ f ∈ fs.take i, isS f.1 st = false) : pAt fs st = some i := by
  unfold pAt
  rw [List.findIdx?_eq_some_iff_getElem]
  obtain ⟨hi, e⟩ := List.getElem?_eq_some_iff.mp hg
  refine ⟨hi, by rw [e]; exact h, fun j hj => ?_⟩
  have := ha fs[j] (List.mem_take_iff_getElem.mpr ⟨j, by omega, rfl⟩)
  simp [this]
/-- names apart: the field is the one that has the name -/
theorem fget_nod {fs : List (Str × D)} {st : D} {i : Nat} {g : Str × D} (nd : (fs.map (·.1)).Nodup) (hg : fs[i]? = some g) (h : isS g.1 st = true) : pAt fs st = some i := by
  refine pAt_some hg h fun f hf => ?_
  rw [List.mem_take_iff_getElem] at hf
  obtain ⟨j, hj, rfl⟩ := hf
  cases hb : isS fs[j].1 st with
  | false => rfl
  | true =>
    obtain ⟨hi, e⟩ := List.getElem?_eq_some_iff.mp hg
    cases st with
    | str x =>
      have e1 : fs[j].1 = x := by simpa [isS] using hb
      have e2 : g.1 = x := by simpa [isS] using h
      have := (List.getElem_inj (i := j) (j := i) (h₀ := by simp; omega) (h₁ := by simp; omega) nd).mp (by simp [e1, e, e2])
      omega
    | _ => cases h
/-! TPe: parts of worths. -/
def stepV (t : Str) (x : D) (ds : List D) (st : D) : Option D := if t = "row" then (match st with | .int i => if 0 ≤ i then ds[i.toNat]? else none | _ => none)
  else if t = "rec" then (pAt (fsOf x) st).bind (ds[·]?) else (match ds with | [.str nm, d] => if isS nm st then some d else none | _ => none)
/-- one step along a worth -/
def stepP (kd w st : D) : Option D := match kd, w with
  | .tup [.str t, x], .tup ds => stepV t x ds st
  | _, _ => none
/-- the kind and the part at a path -/
def partW (kd w : D) : List D → Option (D × D)
  | [] => some (kd, w)
  | st :: r => match stepK kd st, stepP kd w st with
    | some k, some d => partW k d r
    | _, _ => none
theorem partW_cons {kd w st : D} {r : List D} : partW kd w (st :: r) = match stepK kd st, stepP kd w st with
    | some k, some d => partW k d r
    | _, _ => none := rfl
section
variable {L n M N : Nat} {s : S} {Q : D → S → Prop} {X : Nat → S → Prop} {W : List Nat} {kd st w k d : D}
theorem stepP_row {ds : List D} {i : Int} : stepP (.tup [.str "row", k]) (.tup ds) (.int i) = if 0 ≤ i then ds[i.toNat]? else none := rfl
theorem stepP_rec {fs : List (Str × D)} {ds : List D} : stepP (.tup [.str "rec", .tup (fs.map fld)]) (.tup ds) st = (pAt fs st).bind (ds[·]?) := by
  show stepV "rec" _ _ _ = _
  unfold stepV
  rw [if_neg (by decide), if_pos rfl, fsOf_fld]
theorem stepP_pick {fs : List (Str × D)} {nm : Str} : stepP (.tup [.str "pick", .tup (fs.map fld)]) (.tup [.str nm, d]) st = if isS nm st then some d else none := by
  show stepV "pick" _ _ _ = _
  unfold stepV
  rw [if_neg (by decide), if_neg (by decide)]
end
/-! TPn: parts exchanged. -/
def setV (t : Str) (x : D) (ds : List D) (st d : D) : D := if t = "row" then (match st with | .int i => .tup (ds.set i.toNat d) | _ => .non)
  else if t = "rec" then (match pAt (fsOf x) st with | some i => .tup (ds.set i d) | none => .non) else .tup [st, d]
/-- another part one step within -/
def setP (kd w st d : D) : D := match kd, w with
  | .tup [.str t, x], .tup ds => setV t x ds st d
  | _, _ => .non
section
variable {L n M N : Nat} {s : S} {Q : D → S → Prop} {X : Nat → S → Prop} {W : List Nat} {kd st w k d d' : D}
theorem setP_row {ds : List D} {i : Int} : setP (.tup [.str "row", k]) (.tup ds) (.int i) d = .tup (ds.set i.toNat d) := rfl
theorem setP_rec {fs : List (Str × D)} {ds : List D} {i : Nat} (h : pAt fs st = some i) : setP (.tup [.str "rec", .tup (fs.map fld)]) (.tup ds) st d = .tup (ds.set i d) := by
  show setV "rec" _ _ _ _ = _
  unfold setV; rw [if_neg (by decide), if_pos rfl, fsOf_fld, h]
theorem setP_pick {x : D} {ds : List D} : setP (.tup [.str "pick", x]) (.tup ds) st d = .tup [st, d] := by
  show setV "pick" _ _ _ _ = _
  unfold setV; rw [if_neg (by decide), if_neg (by decide)]
/-- a step that leads somewhere, by the kind -/
inductive Stepped (M n : Nat) : D → D → D → D → D → Prop
  | row {k : D} {ds : List D} {i : Nat} {d : D} : Kd M n k → ds.length ≤ 60 → (∀ d ∈ ds, Wt k d) → ds[i]? = some d → Stepped M n (.tup [.str "row", k]) (.tup ds) (.int i) k d
  | recd {fs : List (Str × D)} {ds : List D} {i : Nat} {f : Str × D} {d : D} : 1 ≤ fs.length → fs.length ≤ M → (fs.map (·.1)).Nodup → (∀ f ∈ fs, Nm f.1) → (∀ f ∈ fs, Kd M n f.2) → ds.length = fs.length → (∀ (i : Nat) (f : Str × D) (d : D), fs[i]? = some f → ds[i]? = some d → Wt f.2 d) →
      fs[i]? = some f → ds[i]? = some d → Stepped M n (.tup [.str "rec", .tup (fs.map fld)]) (.tup ds) (.str f.1) f.2 d
  | pick {fs : List (Str × D)} {f : Str × D} {d : D} : 1 ≤ fs.length → fs.length ≤ M → (fs.map (·.1)).Nodup → (∀ f ∈ fs, Nm f.1) → (∀ f ∈ fs, Kd M n f.2) → f ∈ fs → Wt f.2 d → Stepped M n (.tup [.str "pick", .tup (fs.map fld)]) (.tup [.str f.1, d]) (.str f.1) f.2 d
theorem pAt_name {fs : List (Str × D)} {i : Nat} {f : Str × D} (nd : (fs.map (·.1)).Nodup) (hg : fs[i]? = some f) : pAt fs (.str f.1) = some i := fget_nod nd hg (by simp [isS])
theorem fget_name {fs : List (Str × D)} {f : Str × D} (nd : (fs.map (·.1)).Nodup) (hf : f ∈ fs) : fget fs (.str f.1) = some f.2 := by
  obtain ⟨i, hi⟩ := List.getElem?_of_mem hf
  unfold fget; rw [pAt_name nd hi]; simp [hi]
namespace Stepped
variable (z : Stepped M n kd w st k d)
include z
theorem sk : stepK kd st = some k := by
  cases z with
  | @row k ds i d _ hl _ h =>
    have := (List.getElem?_eq_some_iff.mp h).1
    rw [stepK_row, if_pos ⟨by omega, by omega⟩]
  | recd _ _ h4 _ _ _ _ hg _ => rw [stepK_fld (.inl rfl)]; exact fget_name h4 (List.mem_of_getElem? hg)
  | pick _ _ h4 _ _ hf _ => rw [stepK_fld (.inr rfl)]; exact fget_name h4 hf
theorem sp : stepP kd w st = some d := by
  cases z with
  | row _ _ _ h => rw [stepP_row, if_pos (by omega)]; simpa using h
  | recd _ _ h4 _ _ _ _ hg h => rw [stepP_rec, pAt_name h4 hg]; exact h
  | pick _ _ _ _ _ _ _ => rw [stepP_pick, if_pos (by simp [isS])]
/-- the worth with another part within -/
theorem set (hd : Wt k d') : Stepped M n kd (setP kd w st d') st k d' := by
  cases z with
  | row hk hl hds h =>
    rw [setP_row]
    have hi := (List.getElem?_eq_some_iff.mp h).1
    refine .row hk (by simpa using hl) (fun e he => ?_) (by simp [hi])
    rcases List.mem_or_eq_of_mem_set he with he | rfl
    · exact hds e he
    · exact hd
  | @recd fs ds i f d h2 h3 h4 h5 h6 hl hds hg h =>
    rw [setP_rec (pAt_name h4 hg)]
    have hi := (List.getElem?_eq_some_iff.mp h).1
    refine .recd h2 h3 h4 h5 h6 (by simpa using hl) (fun j g e hj he => ?_) hg (by simp [hi])
    by_cases hij : i = j
    · subst hij
      rw [List.getElem?_set_self hi] at he
      cases he
      rw [hg] at hj; cases hj
      exact hd
    · rw [List.getElem?_set_ne hij] at he
      exact hds j g e hj he
  | pick h2 h3 h4 h5 h6 hf _ => rw [setP_pick]; exact .pick h2 h3 h4 h5 h6 hf hd
theorem set_set {d1 : D} : setP kd (setP kd w st d1) st d' = setP kd w st d' := by
  cases z with
  | row => rw [setP_row, setP_row, setP_row, List.set_set]
  | recd _ _ h4 _ _ _ _ hg _ => rw [setP_rec (pAt_name h4 hg), setP_rec (pAt_name h4 hg), setP_rec (pAt_name h4 hg), List.set_set]
  | pick => rw [setP_pick, setP_pick, setP_pick]
end Stepped
theorem Stepped.part (z : Stepped M n kd w st k d) {r : List D} : partW kd w (st :: r) = partW k d r := by
  rw [partW_cons, z.sk, z.sp]
end
/-! TDa: draws of papers: numbers, words, names. -/
theorem abc_small : ∀ c ∈ cd "abcdefghijklmnopqrstuvwxyz", small c := by decide
theorem abc_at {r : Nat} (h : r < 26) : (cd "abcdefghijklmnopqrstuvwxyz")[r]? = some (97 + r) := by
  have : ∀ r : Fin 26, (cd "abcdefghijklmnopqrstuvwxyz")[r.val]? = some (97 + r.val) := by decide
  exact this ⟨r, h⟩
theorem strsOf_map' : ∀ xs : List Str, strsOf (xs.map D.str) = some xs
  | [] => rfl
  | x :: xs => by rw [List.map_cons]; unfold strsOf; rw [strsOf_map' xs]; rfl
def restF (c : Int) : Nat → Int
  | 0 => c - 1000000000000000000
  | k + 1 => if 0 < restF c k then restF c k / 1000003 else restF c k
/-- the k-th draw of a cell -/
def drF (c : Int) (k : Nat) : Int := if 0 < restF c k then restF c k % 1000003 else
  ((((c % 1000000007 + 1) * (2 * (k : Int) + 3) % 2147483647) ^ (5 : Int).toNat + ((k : Int) + 1) ^ (3 : Int).toNat) % 2147483629 + c % 999983) ^ (3 : Int).toNat % 2147483587 / 16
theorem drF_nn {c : Int} {k : Nat} : 0 ≤ drF c k := by
  unfold drF
  split
  · exact Int.emod_nonneg _ (by decide)
  · have := Int.emod_nonneg (((((c % 1000000007 + 1) * (2 * (k : Int) + 3) % 2147483647) ^ (5 : Int).toNat + ((k : Int) + 1) ^ (3 : Int).toNat) % 2147483629 + c % 999983) ^ (3 : Int).toNat) (show (2147483587 : Int) ≠ 0 by decide)
    omega
section
variable {L n : Nat} {s : S} {Q : D → S → Prop} {X : Nat → S → Prop}
theorem joinR {k : Nat} {a : Str} {ys : List Str} (h : lsAt s k = some (ys.map D.str)) (hl : (ys.map (·.length)).sum + ys.length * a.length ≤ 1000000) : mth .join (.str a) [.ref k] s = some (.str (Txt.join a ys), s) := by
  unfold mth; simp only [seqD, h, strsOf_map', hl, if_true]
theorem l_draws_fn {c : Int} {m : Nat} (hL : 1 ≤ L) (hm : m ≤ 100000) (h : ∀ k s', s.length ≤ k → lsAt s' k = some (((List.range m).map (drF c)).map D.int) → Fr [] s s' → Q (.ref k) s') : Ok (callK G L i_l_draws [.int c, .int m] s) Q X := by
  obtain ⟨K, rfl⟩ : ∃ k, L = k + 1 := ⟨L - 1, by omega⟩
  rw [Ok_call G_l_draws]
  unfold d_l_draws
  have p18 : ∀ s : S, pow2 (.int 10) (.int 18) s = some (.int 1000000000000000000, s) := fun s => rfl
  (wp_walk using Ok_ok)
  refine Al_lst fun kl s1 hkl hA f1 => ?_
  have hb := Int.emod_nonneg c (show (1000000007 : Int) ≠ 0 by decide)
  have hb2 := Int.emod_lt_of_pos c (show (0 : Int) < 1000000007 by decide)
  have hc := Int.emod_nonneg c (show (999983 : Int) ≠ 0 by decide)
  have hc2 := Int.emod_lt_of_pos c (show (0 : Int) < 999983 by decide)
  (wp_walk using p18, mod_int (i := c) (j := 1000000007) (s := s1) (by decide), mod_int (i := c) (j := 999983) (s := s1) (by decide))
  have hb' : 0 ≤ c % 1000000007 + 1 ∧ c % 1000000007 + 1 < 2000000000 := by omega
  have hc' : 0 ≤ c % 999983 ∧ c % 999983 < 1000000 := by omega
  clear hb hb2 hc hc2
  generalize hbe : c % 1000000007 + 1 = b at *
  generalize hee : c % 999983 = e at *
  (wp_walk using it_rng1 (i := (m : Int)) (s := s1) (by omega))
  refine loopAt _ (fun i ev t => ∃ (rest : Int) (x6 x7 : Option D) (zs : List Int), ev = [some (.int c), some (.int m), some (.ref kl), some (.int rest), some (.int b), some (.int e), x6, x7] ∧ Fr [] s t ∧ lsAt t kl = some (zs.map D.int) ∧ zs = (List.range i).map (drF c) ∧ rest = restF c i)
    ⟨_, _, _, [], rfl, f1, hA, rfl, rfl⟩ (fun _ _ _ _ => Grd_nil) ?_ ?_
  · rintro i d ev t hd ⟨rest, x6, x7, zs, rfl, fr, hA, hz, hrs⟩
    have hl : zs.length = i := by rw [hz, List.length_map, List.length_range]
    obtain ⟨hi, rfl⟩ := rng_at hd
    refine ⟨_, rfl, ?_⟩
    (wp_walk using mul_intL (i := 2) (j := (i : Int)) (s := t) (by decide))
    (wp_walk using mul_intL (i := b) (j := 2 * (i : Int) + 3) (s := t) (by omega))
    have g1 := Int.emod_nonneg (b * (2 * (i : Int) + 3)) (show (2147483647 : Int) ≠ 0 by decide)
    have g2 := Int.emod_lt_of_pos (b * (2 * (i : Int) + 3)) (show (0 : Int) < 2147483647 by decide)
    (wp_walk using mod_int (i := b * (2 * (i : Int) + 3)) (j := 2147483647) (s := t) (by decide))
    generalize hdh1 : b * (2 * (i : Int) + 3) % 2147483647 = st1 at g1 g2
    (wp_walk using pow_int (i := st1) (j := 5) (s := t) (by omega), pow_int (i := (i : Int) + 1) (j := 3) (s := t) (by omega))
    generalize hdh2 : st1 ^ (5 : Int).toNat + ((i : Int) + 1) ^ (3 : Int).toNat = st2
    have g3 := Int.emod_nonneg st2 (show (2147483629 : Int) ≠ 0 by decide)
    have g4 := Int.emod_lt_of_pos st2 (show (0 : Int) < 2147483629 by decide)
    (wp_walk using mod_int (i := st2) (j := 2147483629) (s := t) (by decide))
    generalize hdh3 : st2 % 2147483629 = st3 at g3 g4
    (wp_walk using pow_int (i := st3 + e) (j := 3) (s := t) (by omega))
    generalize hdh4 : (st3 + e) ^ (3 : Int).toNat = st4
    have g5 := Int.emod_nonneg st4 (show (2147483587 : Int) ≠ 0 by decide)
    (wp_walk using mod_int (i := st4) (j := 2147483587) (s := t) (by decide))
    generalize hdh5 : st4 % 2147483587 = st5 at g5
    (wp_walk using fdiv_int (i := st5) (j := 16) (s := t) (by decide) (by decide))
    have g6 : 0 ≤ st5 / 16 := by omega
    generalize hdh6 : st5 / 16 = st6 at g6
    refine kIf_mid (fun ev t2 => ∃ rest st7, ev = [some (.int c), some (.int m), some (.ref kl), some (.int rest), some (.int b), some (.int e), some (.int (i : Int)), some (.int st7)] ∧ t2 = t ∧ rest = restF c (i + 1) ∧ st7 = drF c i) ?_ ?_
    · refine kIf_split (fun hq => ?_) (fun hq => ?_)
      · (wp_walk using mod_int (i := rest) (j := 1000003) (s := t) (by decide), fdiv_int (i := rest) (j := 1000003) (s := t) (by decide) (by decide))
        have hq := of_decide_eq_true hq
        rw [hrs] at hq
        exact ⟨_, _, rfl, by rw [hrs]; exact (if_pos hq).symm, by rw [hrs]; exact (if_pos hq).symm⟩
      · (wp_walk using Ok_ok)
        have hq := of_decide_eq_false hq
        rw [hrs] at hq
        refine ⟨_, _, rfl, by rw [hrs]; exact (if_neg hq).symm, ?_⟩
        rw [← hdh6, ← hdh5, ← hdh4, ← hdh3, ← hdh2, ← hdh1, ← hbe, ← hee]
        exact (if_neg hq).symm
    · rintro ev t2 ⟨rest, st7, rfl, rfl, g7, g8⟩
      (wp_walk using kM_append hA, append_ref hA (d := .int st7) (by rw [List.length_map]; omega))
      exact ⟨_, _, _, zs ++ [st7], rfl, fr.new hkl, by rw [lsAt_set hA]; simp, by rw [List.range_succ, List.map_append, hz, g8]; rfl, g7⟩
  · rintro ev t ⟨rest, x6, x7, zs, rfl, fr, hA, hz, hrs⟩
    rw [rng_len, Int.toNat_natCast] at hz
    (wp_walk using Ok_ok)
    exact h kl t hkl (by rw [← hz]; exact hA) fr
theorem l_draws_ok {c : Int} {m : Nat} (hL : 1 ≤ L) (hm : m ≤ 100000) (h : ∀ k (zs : List Int) s', s.length ≤ k → lsAt s' k = some (zs.map D.int) → zs.length = m → (∀ z ∈ zs, 0 ≤ z) → Fr [] s s' → Q (.ref k) s') : Ok (callK G L i_l_draws [.int c, .int m] s) Q X := by
  refine l_draws_fn hL hm fun k s' h1 h2 h3 => h k _ s' h1 h2 (by rw [List.length_map, List.length_range]) (fun z hz => ?_) h3
  obtain ⟨i, _, rfl⟩ := List.mem_map.mp hz
  exact drF_nn
end
/-! TDb: names drawn. -/
theorem atM {α : Type} {f : α → D} {xs : List α} {i : Nat} (h : i < xs.length) : ∃ a, a ∈ xs ∧ xs[i]? = some a ∧ atI (xs.map f) (i : Int) = some (f a) := by
  refine ⟨xs[i], List.getElem_mem h, List.getElem?_eq_getElem h, atI_of i ?_⟩
  rw [List.getElem?_map, List.getElem?_eq_getElem h]; rfl
/-! TDc: kinds drawn, by a stack. -/
/-- a kind, its names apart where q -/
inductive Kq (q : Prop) (M : Nat) : Nat → D → Prop
  | num {n : Nat} {w : Int} : 1 ≤ w → w ≤ 4 → Kq q M (n + 1) (.tup [.str "num", .int w])
  | text {n : Nat} : Kq q M (n + 1) (.tup [.str "text"])
  | row {n : Nat} {k : D} : Kq q M n k → Kq q M (n + 1) (.tup [.str "row", k])
  | fields {n : Nat} {w : Str} {fs : List (Str × D)} : w = "rec" ∨ w = "pick" → 1 ≤ fs.length → fs.length ≤ M → (q → (fs.map (·.1)).Nodup) → (∀ f ∈ fs, Nm f.1) → (∀ f ∈ fs, Kq q M n f.2) → Kq q M (n + 1) (.tup [.str w, .tup (fs.map fld)])
theorem Kq.deep {q : Prop} {M : Nat} {n : Nat} {d : D} (h : Kq q M n d) : ∀ {m : Nat}, n ≤ m → Kq q M m d := by
  induction h with
  | num h1 h2 => intro m hm; cases m with | zero => omega | succ m => exact .num h1 h2
  | text => intro m hm; cases m with | zero => omega | succ m => exact .text
  | row _ ih => intro m hm; cases m with | zero => omega | succ m => exact .row (ih (by omega))
  | fields h1 h2 h3 h4 h5 _ ih => intro m hm; cases m with | zero => omega | succ m => exact .fields h1 h2 h3 h4 h5 fun f hf => ih f hf (by omega)
theorem Kq.kd {q : Prop} {M : Nat} {n : Nat} {d : D} (h : Kq q M n d) (hq : q) : Kd M n d := by
  induction h with
  | num h1 h2 => exact .num h1 h2
  | text => exact .text
  | row _ ih => exact .row ih
  | fields h1 h2 h3 h4 h5 _ ih => exact .fields h1 h2 h3 (h4 hq) h5 ih
/-! TDd (printed by gen_TDd.py): papers drawn. -/
def plc (p : Str × Str × D) : D := .tup [.str p.1, .str p.2.1, p.2.2]
def papD (nm : Str) (sd : Int) (ps : List (Str × Str × D)) (rr : D) : D := .tup [.str nm, .int sd, .tup (ps.map plc), rr]
/-! TXa: kinds written. -/
def mkS (l : List Nat) : Str := ⟨l.toArray⟩
theorem cd_mkS {l : List Nat} : cd (mkS l) = l := by simp [cd, mkS]
theorem mkS_cd {x : Str} : mkS (cd x) = x := cd_inj cd_mkS
theorem mkS_len {l : List Nat} : (mkS l).length = l.length := by rw [cd_len, cd_mkS]
def joinC : List (List Nat) → List Nat
  | [] => []
  | [a] => a
  | a :: b :: r => a ++ [44, 32] ++ joinC (b :: r)
theorem joinC_len : ∀ l : List (List Nat), (joinC l).length ≤ (l.map fun a => a.length + 2).sum
  | [] => Nat.le_refl _
  | [a] => by simp [joinC]
  | a :: b :: r => by
    have := joinC_len (b :: r)
    rw [joinC, List.map_cons, List.sum_cons, List.length_append, List.length_append]
    simp only [List.length_cons, List.length_nil] at this ⊢
    omega
theorem foldl_glue {a : Str} : ∀ (ys : List Str) (z : Array Nat), (ys.foldl (fun acc p => acc ++ a.cps ++ p.cps) z).toList = z.toList ++ (ys.map fun y => cd a ++ cd y).flatten
  | [], z => by simp
  | y :: ys, z => by
    rw [List.foldl_cons, foldl_glue ys]
    simp
theorem joinC_flat : ∀ (l : List Nat) (ls : List (List Nat)), joinC (l :: ls) = l ++ (ls.map fun y => [44, 32] ++ y).flatten
  | l, [] => by simp [joinC]
  | l, m :: ls => by rw [joinC, joinC_flat m ls, List.map_cons, List.flatten_cons]; simp
theorem join_codes (ys : List Str) : Txt.join ", " ys = mkS (joinC (ys.map cd)) := by
  apply cd_inj
  rw [cd_mkS]
  show cd (Builtin.Str.glued ", " ys) = _
  cases ys with
  | nil => rfl
  | cons y ys =>
    unfold Builtin.Str.glued
    refine (foldl_glue ys _).trans ?_
    rw [List.map_cons, joinC_flat, List.map_map]
    rfl
theorem sum_len_codes {ys : List Str} : (ys.map (·.length)).sum + ys.length * ((", " : Str)).length = ((ys.map cd).map fun a => a.length + 2).sum := by
  induction ys with
  | nil => rfl
  | cons y ys ih =>
    rw [show ((", " : Str)).length = 2 from rfl] at ih ⊢
    simp only [List.map_cons, List.sum_cons, List.length_cons]
    rw [cd_len]; omega
section
variable {L n : Nat} {s : S} {Q : D → S → Prop} {X : Nat → S → Prop}
theorem str_fig {w : Int} (h1 : 0 ≤ w) (h4 : w ≤ 4) : blt .str [.int w] s = some (.str (mkS [48 + w.toNat]), s) := by
  have : w = 0 ∨ w = 1 ∨ w = 2 ∨ w = 3 ∨ w = 4 := by omega
  rcases this with rfl | rfl | rfl | rfl | rfl <;> rfl
theorem add_mk {l m : List Nat} {x y : Str} (hx : cd x = l) (hy : cd y = m) (h : l.length + m.length ≤ 1000000) : add2 (.str x) (.str y) s = some (.str (mkS (l ++ m)), s) := by
  rw [add_str (by rw [cd_len, cd_len, hx, hy]; exact h)]
  have : x ++ y = mkS (l ++ m) := cd_inj (by rw [cd_app, cd_mkS, hx, hy])
  rw [this]
end
/-! TXb: kinds read. -/
theorem cutS_at {x : Str} {pre w post : List Nat} (h : cd x = pre ++ w ++ post) : cutS x (some (pre.length : Int)) (some ((pre.length + w.length : Nat) : Int)) = mkS w := by
  apply cd_inj
  have hl : x.length = pre.length + w.length + post.length := by rw [cd_len, h, List.length_append, List.length_append]
  show (((cd x).drop (HT.sIx x.length 0 (some (pre.length : Int)))).take (HT.sIx x.length x.length (some ((pre.length + w.length : Nat) : Int)) - HT.sIx x.length 0 (some (pre.length : Int)))) = _
  simp only [HT.sIx, if_neg (show ¬ (pre.length : Int) < 0 by omega), if_neg (show ¬ ((pre.length + w.length : Nat) : Int) < 0 by omega)]
  rw [show min ((pre.length : Int)).toNat x.length = pre.length by omega, show min (((pre.length + w.length : Nat) : Int)).toNat x.length = pre.length + w.length by omega, h, cd_mkS, List.append_assoc, List.drop_left, show pre.length + w.length - pre.length = w.length by omega, List.take_left]
theorem cutS_one {x : Str} {pre post : List Nat} {c : Nat} (h : cd x = pre ++ c :: post) : cutS x (some (pre.length : Int)) (some ((pre.length : Int) + 1)) = mkS [c] := by
  have := cutS_at (x := x) (pre := pre) (w := [c]) (post := post) (by rw [h]; simp)
  rw [← this, List.length_singleton, Int.natCast_add]; rfl
def small1 (c : Nat) : Bool := decide (97 ≤ c) && decide (c ≤ 122)
theorem small1_iff {c : Nat} : small1 c = true ↔ small c := by unfold small1 small; simp
theorem in_abc {c : Nat} {s : S} : in2 false (sgn c) (.str "abcdefghijklmnopqrstuvwxyz") s = some (.bl (small1 c), s) := by
  have : decide (c ∈ cd "abcdefghijklmnopqrstuvwxyz") = small1 c := by
    rw [Bool.eq_iff_iff, decide_eq_true_eq, small1_iff]
    constructor
    · exact abc_small c
    · rintro ⟨h1, h2⟩
      have := abc_at (r := c - 97) (by omega)
      rw [show 97 + (c - 97) = c by omega] at this
      exact List.mem_of_getElem? this
  rw [← this]; rfl
/-- no letter stands next -/
def Ends1 (post : List Nat) : Prop := ∀ c r, post = c :: r → ¬ small c
section
variable {L n : Nat} {s : S} {Q : D → S → Prop} {X : Nat → S → Prop} {T : Str} {pre w post : List Nat}
theorem past_ok {x : Str} (hL : 1 ≤ L) (hT : cd T = pre ++ cd x ++ post) (hl : T.length ≤ 1000000) (h : Q (.int ((pre.length + x.length : Nat) : Int)) s) : Ok (callK G L i_past [.str T, .int (pre.length : Int), .str x] s) Q X := by
  obtain ⟨k, rfl⟩ : ∃ k, L = k + 1 := ⟨L - 1, by omega⟩
  have hx : x.length ≤ 1000000 := by
    have : T.length = pre.length + (cd x).length + post.length := by rw [cd_len, hT, List.length_append, List.length_append]
    rw [cd_len (x := x)]; omega
  rw [Ok_call G_past]
  unfold d_past
  have e : cutS T (some (pre.length : Int)) (some ((pre.length : Int) + (x.length : Int))) = x := by
    have := cutS_at hT
    rw [mkS_cd, ← cd_len, Int.natCast_add] at this
    exact this
  (wp_walk using len_str (x := x) (s := s) hx, slc_str (x := T) (s := s) hl, e)
  have := h
  rw [Int.natCast_add] at this
  exact this
theorem word_from_ok (hL : 1 ≤ L) (hT : cd T = pre ++ w ++ post) (hl : T.length ≤ 900000) (hw : ∀ c ∈ w, small c) (he : Ends1 post) (h : Q (.tup [.str (mkS w), .int ((pre.length + w.length : Nat) : Int)]) s) : Ok (callK G L i_word_from [.str T, .int (pre.length : Int)] s) Q X := by
  obtain ⟨k, rfl⟩ : ∃ k, L = k + 1 := ⟨L - 1, by omega⟩
  have hlen : T.length = pre.length + w.length + post.length := by rw [cd_len, hT, List.length_append, List.length_append]
  rw [Ok_call G_word_from]
  unfold d_word_from
  (wp_walk using Ok_ok)
  refine OkS_loopW (fun m e t => ∃ j : Nat, e = [some (.str T), some (.int (pre.length : Int)), some (.int ((pre.length + j : Nat) : Int))] ∧ t = s ∧ j + m = w.length) ?_ 1000000 _ _ _ (show w.length < 1000000 by omega) ⟨0, rfl, rfl, by omega⟩
  rintro m e t ⟨j, rfl, rfl, hj⟩
  (wp_walk using len_str (x := T) (s := t) (by omega))
  have stop : OkS (denB (callK G k) (.cons (.ret (.tup (.cons (.slc (.var 0) (.some (.var 1)) (.some (.var 2))) (.cons (.var 2) .nil)))) .nil) [some (.str T), some (.int (pre.length : Int)), some (.int ((pre.length + w.length : Nat) : Int))] t) (kN Q) (xR Q X) := by
    (wp_walk using slc_str (x := T) (s := t) (by omega), cutS_at hT)
    exact h
  simp only [S_asl, xUs_rt, S_augs, kAs1_app, E_dsp, kDs1_app, trnX_rt, S_tryn, E_tin, T_tin, kTi2_app, E_tget, kTg1_app, kTg2_app, S_tset, kTs1_app, kTs2_app, T_chn, kCh1_app, kCh2_app, kCh3_true, kCh3_false, E_ccall, b_min3, kw_num_text, kw_num_row, kw_num_rec, kw_num_pick, kw_text_num, kw_text_row, kw_text_rec, kw_text_pick, kw_row_num, kw_row_text, kw_row_rec, kw_row_pick, kw_rec_num, kw_rec_text, kw_rec_row, kw_rec_pick, kw_pick_num, kw_pick_text, kw_pick_row, kw_pick_rec, S_tryx, kHx_app, kUn_app, xUn_rt, tryX_rt, S_try2, try2X_rt, S_seta, kSa1_app, S_auga, E_isx, isx_non, E_attr, E_mcall, kMc2_app, E_new, kNew_app, kNi_app, kNw_non, trX_rt, S_raise, S_tryc, S_aug, kAugE_app, kAug_add, kAug_sub, Ok_ok, Ok_ex, OkS_nx, OkS_rt, kX_app, kN_app, xR_rt, xR_ex, kB_app, B_nil, B_cons, kSet_app, S_set, S_setc, S_asg, kAsg_2, kAsg_3, kAsg_4, S_sub, kSub1_app, kSub2_app, kSub3_app, kExp_app, S_exp, S_ret, S_retn, S_pas, S_brk, S_cnt, kIf_true, kIf_false, S_ife, S_for, kFor_app, S_whl, kTb_app, kC1_app, kC2_app, T_cmp, T_val, kNotT_app, T_not, kAndT_true, kAndT_false, T_and, kOrT_true, kOrT_false, T_or, T_one, E_var, E_non, E_bl, E_int, E_str, E_conI, E_conS, k1_app, E_neg, kO1_app, kO2_app, E_bin, E_cmp, E_idx, kAnd_true, kAnd_false, kOr_true, kOr_false, E_and, E_or, E_one, kNot_app, E_not, kIte_true, kIte_false, E_ite, kA1_app, kA2_app, A_nil, A_cons, kTup_app, kLst_app, E_tup, E_lst, E_dk, E_dt, kO_app, O_none, O_some, kS1_app, kS2_app, kS3_app, E_slc, E_rev, E_nset, E_lrg1, E_lrg2, E_lzip, kLz_app, kCall_app, E_call, kBlt_app, E_blt, E_isi, kM_upper, kM_split, kM_sidx, kM_join, kM2_app, E_mth, kW_app, kWs_app, W_seq, W_rng1, W_rng2, W_rng3, W_enum, W_zip, it_tup, it_rol, it_str, kLc_app, kAcc_app, E_lc, C_none, C_some, zs_tup, zs_rol, R.of_some, R.of_none, idx_tup, idx_rol, atI_0, atI_1, atI_2, atI_3, atI_4, atI_5, atI_6, atI_7, Option.map_some, bop_add, bop_sub, bop_mul, bop_fdiv, bop_mod, bop_pow, add_int, sub_int, neg_int, lt_int, le_int, gt_int, ge_int, eq_any, ne_any, is_any, isn_any, in_any, nin_any, bOf_some, is_non, isn_non, is_bl, eq_int, eq_str, eq_bl, eq_nn, eq_tupstr, eq_strtup, len_tup, len_rol, ok_list_tup, b_tuple_tup, b_max2, b_min2, b_int_bl, b_int_int, isi_non, isi_bl, isi_int, isi_str, isi_tup, isi_rol, rcv_str, isT, isNon, slc_tup, rev_tup, Mth.ty, wipeE, len_ns, len_cs, G_nm, Gs_nil, Gs_cons, Option.bind_some, List.set_cons_zero, List.set_cons_succ, List.map_cons, List.map_nil, List.length_cons, List.length_nil, List.replicate_succ, List.replicate_zero, List.cons_append, List.nil_append, List.append_nil, ix10, ix20, ix21, ix30, ix31, ix32, List.set_set, decide_true, decide_false, Bool.not_true, Bool.not_false, Nat.reduceSub, Nat.reduceAdd, Nat.reduceLeDiff, Int.cast_ofNat_Int, Int.natCast_zero, Int.natCast_one, Int.reduceBEq, Int.reduceLT, Int.reduceLE, Int.reduceAdd, Int.reduceSub, Int.reduceMul, Int.reduceNeg, Int.reduceDiv, Int.reduceMod, Int.zero_add, beq_self_eq_true, true_and, and_true, and_self, gV_0, gV_1, gV_2, gV_3, gV_4, gV_5, gV_6, gV_7, gV_8, gV_9, gV_10, gV_11, gV_12, gV_13, gV_14, gV_15, gV_16, gV_17, gV_18, gV_19, gV_20, gV_21, gV_22, gV_23] at stop
  by_cases hm : m = 0
  · have hjw : j = w.length := by omega
    subst hjw
    cases post with
    | nil =>
      rw [decide_eq_false (show ¬ ((pre.length + w.length : Nat) : Int) < T.length by simp at hlen; omega)]
      (wp_walk using Ok_ok)
      exact ⟨fun hh => (nomatch hh), fun _ => stop⟩
    | cons c r =>
      rw [decide_eq_true (show ((pre.length + w.length : Nat) : Int) < T.length by simp at hlen; omega)]
      (wp_walk using Ok_ok)
      rw [idx_str (by omega), atI_of (pre.length + w.length) (show T.cps.toList[pre.length + w.length]? = some c by
        show (cd T)[_]? = _
        rw [hT, ← List.length_append, List.getElem?_append_right (Nat.le_refl _)]; simp)]
      (wp_walk using Ok_ok)
      rw [show (D.str (Str.mk #[c])) = sgn c from rfl, in_abc]
      have hs : small1 c = false := by
        cases hq : small1 c with
        | false => rfl
        | true => exact absurd (small1_iff.mp hq) (he c r rfl)
      (wp_walk using hs)
      exact ⟨fun hh => (nomatch hh), fun _ => stop⟩
  · have hjw : j < w.length := by omega
    have hg : w[j]? = some w[j] := List.getElem?_eq_getElem hjw
    have hsm := small1_iff.mpr (hw _ (List.getElem_mem hjw))
    generalize w[j] = c at hg hsm
    rw [decide_eq_true (show ((pre.length + j : Nat) : Int) < T.length by omega)]
    (wp_walk using Ok_ok)
    rw [idx_str (by omega), atI_of (pre.length + j) (show T.cps.toList[pre.length + j]? = some c by
      show (cd T)[_]? = _
      rw [hT, List.getElem?_append_left (by rw [List.length_append]; omega), List.getElem?_append_right (by omega), show pre.length + j - pre.length = j by omega, hg])]
    (wp_walk using Ok_ok)
    rw [show (D.str (Str.mk #[c])) = sgn c from rfl, in_abc]
    (wp_walk using hsm)
    refine ⟨fun _ => ⟨m - 1, by omega, ?_⟩, fun hh => (nomatch hh)⟩
    (wp_walk using Ok_ok)
    (wp_walk using List.getElem?_cons_succ, List.getElem?_cons_zero)
    exact ⟨j + 1, by rw [Int.natCast_add, Int.natCast_add]; simp; omega, by omega⟩
theorem figure_from_ok {v lo hi : Int} (hL : 1 ≤ L) (hT : cd T = pre ++ (48 + v.toNat) :: post) (hl : T.length ≤ 900000) (h0 : 0 ≤ lo) (h1 : lo ≤ v) (h2 : v ≤ hi) (h4 : hi ≤ 4) (h : Q (.tup [.int v, .int ((pre.length + 1 : Nat) : Int)]) s) : Ok (callK G L i_figure_from [.str T, .int (pre.length : Int), .int lo, .int hi] s) Q X := by
  obtain ⟨k, rfl⟩ : ∃ k, L = k + 1 := ⟨L - 1, by omega⟩
  rw [Ok_call G_figure_from]
  unfold d_figure_from
  (wp_walk using it_rng2 (i := lo) (j := hi + 1) (s := s) (by omega))
  refine loopAt _ (fun i e t => ∃ x4, e = [some (.str T), some (.int (pre.length : Int)), some (.int lo), some (.int hi), x4] ∧ t = s ∧ lo + i ≤ v) ⟨_, rfl, rfl, by omega⟩ (fun _ _ _ _ => Grd_nil) ?_ ?_
  · rintro i d e t hd ⟨x4, rfl, rfl, hi'⟩
    obtain ⟨hi2, rfl⟩ := rng_at hd
    refine ⟨_, rfl, ?_⟩
    (wp_walk using slc_str (x := T) (s := t) (by omega), cutS_one hT, str_fig (s := t) (show 0 ≤ lo + (i : Int) by omega) (by omega))
    refine kIf_split (fun hh => ?_) (fun hh => ?_)
    · have hv : lo + (i : Int) = v := by
        have := congrArg cd (beq_iff_eq.mp hh)
        rw [cd_mkS, cd_mkS] at this
        simp at this; omega
      (wp_walk using Ok_ok)
      rw [hv]
      exact h
    · have hv : lo + (i : Int) ≠ v := by
        intro e
        rw [e] at hh
        simp at hh
      (wp_walk using Ok_ok)
      exact ⟨_, rfl, by omega⟩
  · rintro e t ⟨x4, rfl, rfl, hi'⟩
    rw [rng_len] at hi'
    omega
end
/-! TXc: kinds read back. -/
theorem scan_all {g : D → Int} : ∀ {fs : List (Str × D)} {seen : List Str}, (fs.map (·.1)).Nodup → (∀ f ∈ fs, f.1 ∉ seen) → (∀ f ∈ fs, Nm f.1) → scanF g seen (fs.map fld) = some (fs.map fun f => g f.2)
  | [], seen, _, _, _ => rfl
  | f :: fs, seen, hn, hs, hm => by
    rw [List.map_cons, List.nodup_cons] at hn
    have e : (nameB f.1 && !decide (f.1 ∈ seen)) = true := by
      rw [nameB_nm.mpr (hm f (by simp)), decide_eq_false (hs f (by simp))]; rfl
    have ih := scan_all (g := g) (fs := fs) (seen := seen ++ [f.1]) hn.2 (fun a ha hx => by
      rcases List.mem_append.mp hx with h | h
      · exact hs a (by simp [ha]) h
      · rw [List.mem_singleton] at h
        exact hn.1 (h ▸ List.mem_map_of_mem ha)) (fun a ha => hm a (by simp [ha]))
    show (if (nameB f.1 && !decide (f.1 ∈ seen)) = true then (scanF g (seen ++ [f.1]) (fs.map fld)).map (g f.2 :: ·) else none) = _
    rw [if_pos e, ih]; rfl
theorem kd_kq {q : Prop} {M n : Nat} {d : D} (h : Kd M n d) : Kq q M n d := by
  induction h with
  | num h1 h2 => exact .num h1 h2
  | text => exact .text
  | row _ ih => exact .row ih
  | fields h1 h2 h3 h4 h5 _ ih => exact .fields h1 h2 h3 (fun _ => h4) h5 ih
theorem kd_dep {n : Nat} {d : D} (h : Kd 6 n d) : ∀ {m : Nat}, n ≤ m → 1 ≤ depF m d ∧ depF m d ≤ n := by
  induction h with
  | @num n w h1 h2 =>
    intro m hm
    obtain ⟨m, rfl⟩ : ∃ k, m = k + 1 := ⟨m - 1, by omega⟩
    have : depF (m + 1) (.tup [.str "num", .int w]) = 1 := by
      show tagZ (depF m) "num" (.int w) = 1
      unfold tagZ
      rw [if_pos rfl]
      exact if_pos ⟨h1, h2⟩
    omega
  | @text n =>
    intro m hm
    obtain ⟨m, rfl⟩ : ∃ k, m = k + 1 := ⟨m - 1, by omega⟩
    have : depF (m + 1) (.tup [.str "text"]) = 1 := if_pos rfl
    omega
  | @row n k hk ih =>
    intro m hm
    obtain ⟨m, rfl⟩ : ∃ k, m = k + 1 := ⟨m - 1, by omega⟩
    have := ih (show n ≤ m by omega)
    have e : depF (m + 1) (.tup [.str "row", k]) = rowZ (depF m k) := by
      show tagZ (depF m) "row" k = _
      unfold tagZ
      rw [if_neg (by decide), if_pos rfl]
    rw [e]
    unfold rowZ
    split <;> omega
  | @fields n w fs hw h1 h2 h3 h4 h5 ih =>
    intro m hm
    obtain ⟨m, rfl⟩ : ∃ k, m = k + 1 := ⟨m - 1, by omega⟩
    have e1 : ¬ w = "num" := by rcases hw with rfl | rfl <;> decide
    have e2 : ¬ w = "row" := by rcases hw with rfl | rfl <;> decide
    have e : depF (m + 1) (.tup [.str w, .tup (fs.map fld)]) = fsZ (depF m) (.tup (fs.map fld)) := by
      show tagZ (depF m) w (.tup (fs.map fld)) = _
      unfold tagZ
      rw [if_neg e1, if_neg e2, if_pos hw]
    rw [e]
    have e3 : fsZ (depF m) (.tup (fs.map fld)) = fieldsZ (scanF (depF m) [] (fs.map fld)) := if_pos (by rw [List.length_map]; omega)
    rw [e3, scan_all h3 (by simp) h4]
    have hb : ∀ z ∈ fs.map (fun f => depF m f.2), 1 ≤ z ∧ z ≤ n := by
      intro z hz
      obtain ⟨f, hf, rfl⟩ := List.mem_map.mp hz
      exact ih f hf (by omega)
    have hne : fs.map (fun f => depF m f.2) ≠ [] := by intro h; rw [List.map_eq_nil_iff] at h; subst h; simp at h1
    generalize fs.map (fun f => depF m f.2) = zs at hb hne
    have e4 : fieldsZ (some zs) = 1 + mx zs := if_neg (by
      rintro (h | h)
      · exact hne h
      · have := hb 0 h; omega)
    rw [e4]
    have hm := hb _ (mx_mem hne)
    omega
/-! TXd: what is the same with itself, by its parts. -/
inductive Px : Nat → D → Prop
  | int {n : Nat} (i : Int) : Px n (.int i)
  | str {n : Nat} (x : Str) : Px n (.str x)
  | non {n : Nat} : Px n .non
  | tup {n : Nat} {ds : List D} : ds.length ≤ 1000 → (∀ d ∈ ds, Px n d) → Px (n + 1) (.tup ds)
theorem Px.deep {n : Nat} {d : D} (h : Px n d) : ∀ {m : Nat}, n ≤ m → Px m d := by
  induction h with
  | int i => intro m _; exact .int i
  | str x => intro m _; exact .str x
  | non => intro m _; exact .non
  | tup h _ ih => intro m hm; cases m with | zero => omega | succ m => exact .tup h fun d hd => ih d hd (by omega)
theorem kq_px {q : Prop} {n : Nat} {d : D} (h : Kq q 6 n d) : Px (3 * n) d := by
  induction h with
  | @num n w h1 h2 =>
    refine .tup (n := 3 * n + 2) (by simp) ?_
    intro d hd
    simp only [List.mem_cons, List.not_mem_nil, or_false] at hd
    rcases hd with rfl | rfl
    · exact .str _
    · exact .int _
  | @text n =>
    refine .tup (n := 3 * n + 2) (by simp) ?_
    intro d hd
    simp only [List.mem_cons, List.not_mem_nil, or_false] at hd
    subst hd
    exact .str _
  | @row n k hk ih =>
    refine .tup (n := 3 * n + 2) (by simp) ?_
    intro d hd
    simp only [List.mem_cons, List.not_mem_nil, or_false] at hd
    rcases hd with rfl | rfl
    · exact .str _
    · exact ih.deep (by omega)
  | @fields n w fs hw h1 h2 h3 h4 h5 ih =>
    refine .tup (n := 3 * n + 2) (by simp) ?_
    intro d hd
    simp only [List.mem_cons, List.not_mem_nil, or_false] at hd
    rcases hd with rfl | rfl
    · exact .str _
    · refine .tup (n := 3 * n + 1) (by rw [List.length_map]; omega) ?_
      intro d hd
      obtain ⟨f, hf, rfl⟩ := List.mem_map.mp hd
      refine .tup (n := 3 * n) (by simp) ?_
      intro d hd
      simp only [List.mem_cons, List.not_mem_nil, or_false] at hd
      rcases hd with rfl | rfl
      · exact .str _
      · exact ih f hf
theorem zipD_own : ∀ ds : List D, zipD ds ds = ds.map fun d => .tup [d, d]
  | [] => rfl
  | d :: ds => by rw [zipD, zipD_own ds]; rfl
theorem l_same_v2_ok : ∀ (n : Nat) {L : Nat} {s : S} {Q : D → S → Prop} {X : Nat → S → Prop} {d : D}, n + 1 ≤ L → Px n d → (∀ s', Fr [] s s' → Q (.bl true) s') → Ok (callK G L i_l_same_v2 [d, d] s) Q X := by
  intro n
  induction n with
  | zero =>
    intro L s Q X d hL hd h
    obtain ⟨k, rfl⟩ : ∃ k, L = k + 1 := ⟨L - 1, by omega⟩
    rw [Ok_call G_l_same_v2]
    unfold d_l_same_v2
    cases hd <;> (wp_walk using Ok_ok) <;> exact h s Fr.refl
  | succ n ih =>
    intro L s Q X d hL hd h
    obtain ⟨k, rfl⟩ : ∃ k, L = k + 1 := ⟨L - 1, by omega⟩
    rw [Ok_call G_l_same_v2]
    unfold d_l_same_v2
    cases hd with
    | int i => (wp_walk using Ok_ok); exact h s Fr.refl
    | str x => (wp_walk using Ok_ok); exact h s Fr.refl
    | non => (wp_walk using Ok_ok); exact h s Fr.refl
    | @tup _ ds hl hds =>
      (wp_walk using it_zip zs_tup zs_tup)
      refine compAll _ (fun i acc s' => Fr [] s s' ∧ acc = List.replicate i (.bl true)) ⟨Fr.refl, rfl⟩ (fun _ _ _ _ => Grd_nil) (by rw [zipD_own, List.length_map]; omega) ?_ ?_
      · rintro i d acc s1 hd _ ⟨f1, rfl⟩
        rw [zipD_own, List.getElem?_map, Option.map_eq_some_iff] at hd
        obtain ⟨d, hd, rfl⟩ := hd
        refine ⟨_, rfl, ?_⟩
        (wp_walk using Ok_ok)
        refine ih (by omega) (hds d (List.mem_of_getElem? hd)) fun s2 f2 => ?_
        exact ⟨f1.trans f2, List.replicate_succ'.symm⟩
      · rintro acc s1 _ ⟨f1, rfl⟩
        (wp_walk using Ok_ok)
        refine Al_lst fun kl s2 _ hA f2 => ?_
        (wp_walk using all_ref (bs := List.replicate (zipD ds ds).length true) (by rw [List.map_replicate]; exact hA))
        rw [show (List.replicate (zipD ds ds).length true).all id = true by simp]
        exact h _ (f1.trans f2)
/-! TYb: is_paper of anything, the program's and the law's own. -/
abbrev wayWs : List Str := ["copy", "give", "lend", "lease"]
def plB (N : Nat) : List Str → List D → Bool
  | _, [] => true
  | seen, d :: r => match d with
    | .tup [.str x, b, k] => nameB x && isSs wayWs b && inR 5 (depF N k) && !decide (x ∈ seen) && plB N (seen ++ [x]) r
    | _ => false
def sideB : D → Bool
  | .int i => decide (0 ≤ i) && decide (i ≤ 1)
  | _ => false
def placeB (N : Nat) : D → Bool
  | .tup [a, b, k] => nameD a && isSs wayWs b && inR 5 (depF N k)
  | _ => false
def placesB (N : Nat) : D → Bool
  | .tup ps => plB N [] ps
  | _ => false
def paperB (N : Nat) : D → Bool
  | .tup [a, b, p, r] => nameD a && sideB b && placesB N p && (isNon r || inR 5 (depF N r))
  | _ => false
theorem plB_cons {N : Nat} {seen : List Str} {x : Str} {b k : D} {r : List D} : plB N seen (.tup [.str x, b, k] :: r) = (nameB x && isSs wayWs b && inR 5 (depF N k) && !decide (x ∈ seen) && plB N (seen ++ [x]) r) := rfl
theorem plB_place {N : Nat} {seen : List Str} {d : D} {r : List D} (h : placeB N d = false) : plB N seen (d :: r) = false := by
  unfold plB
  split
  · rename_i x b k
    have h : (nameB x && isSs wayWs b && inR 5 (depF N k)) = false := h
    rw [h]; rfl
  · rfl
theorem placeB_shape {N : Nat} {d : D} (h : placeB N d = true) : ∃ x b k, d = .tup [.str x, b, k] := by
  unfold placeB at h
  split at h
  · rename_i a b k
    cases a with
    | str x => exact ⟨x, b, k, rfl⟩
    | _ => simp [nameD] at h
  · cases h
section
variable {k n L c m N : Nat} {s : S} {Q : D → S → Prop} {X : Nat → S → Prop} {W : List Nat}
theorem way_ok {d : D} (hL : 1 ≤ L) (hd : Any c W s m d) (h : Q (.bl (isSs wayWs d)) s) : Ok (callK G L i_is_way [d] s) Q X := by
  obtain ⟨K, rfl⟩ : ∃ k, L = k + 1 := ⟨L - 1, by omega⟩
  rw [Ok_call G_is_way]
  unfold d_is_way
  cases hd with
  | lst hn h' => (wp_walk using isi_ref h'); exact h
  | dic hn h' => (wp_walk using isi_dic h'); exact h
  | @str _ x hx =>
    have hd : Any c W s m (.str x) := .str hx
    (wp_walk using Ok_ok)
    rw [show [D.str "copy", .str "give", .str "lend", .str "lease"] = wayWs.map D.str from rfl, in_strs wayWs hd]
    (wp_walk using Ok_ok)
    exact h
  | _ => (wp_walk using Ok_ok); exact h
theorem side_ok {d : D} (hL : 2 ≤ L) (hd : Any c W s m d) (h : Q (.bl (sideB d)) s) : Ok (callK G L i_is_side [d] s) Q X := by
  obtain ⟨K, rfl⟩ : ∃ k, L = k + 1 + 1 := ⟨L - 2, by omega⟩
  rw [Ok_call G_is_side]
  unfold d_is_side
  (wp_walk using is_whole_eq (k := K) hd)
  cases hd with
  | @int _ i hi =>
    (wp_walk using Ok_ok)
    refine kAnd_split (fun h1 => ?_) (fun h1 => ?_)
    · (wp_walk using Ok_ok)
      have e : sideB (.int i) = decide (i ≤ 1) := by show (decide (0 ≤ i) && decide (i ≤ 1)) = _; rw [h1, Bool.true_and]
      rw [e] at h; exact h
    · have e : sideB (.int i) = false := by show (decide (0 ≤ i) && decide (i ≤ 1)) = _; rw [h1, Bool.false_and]
      rw [e] at h; (wp_walk using Ok_ok); exact h
  | _ => (wp_walk using Ok_ok); exact h
def seenK (seen : List Str) : List (Key × D) := seen.map fun x => (.inr x, .bl true)
theorem seen_val {seen : List Str} {x : Str} : (valD (seenK seen) (.inr x)).isSome = decide (x ∈ seen) := by
  unfold valD seenK
  rw [Option.isSome_map, Bool.eq_iff_iff, List.find?_isSome, decide_eq_true_eq]
  constructor
  · rintro ⟨p, hp, e⟩
    obtain ⟨y, hy, rfl⟩ := List.mem_map.mp hp
    have : y = x := by simpa using e
    exact this ▸ hy
  · intro hx
    exact ⟨_, List.mem_map.mpr ⟨x, hx, rfl⟩, by simp⟩
theorem seen_put {seen : List Str} {x : Str} (h : x ∉ seen) : putD (seenK seen) (.inr x) (.bl true) = seenK (seen ++ [x]) := by
  unfold putD
  rw [if_neg]
  · simp [seenK]
  · intro hx
    obtain ⟨p, hp, e⟩ := List.any_eq_true.mp hx
    obtain ⟨y, hy, rfl⟩ := List.mem_map.mp hp
    have : y = x := by simpa using e
    exact h (this ▸ hy)
end
/-! TMd: the law's like; crossing. -/
def nmL (fs : List (Str × D)) : List Str := fs.map (·.1)
/-! TBn: deeds done by the keeper. -/
section
variable {s s' : S} {a ks e ws L : Nat} {z : Int} {rows : List Tg9} {dd : List D} {Q : D → S → Prop} {X : Nat → S → Prop} {d sd : D} {ps : List D} {x : Str}
theorem h9 : [1, 2, 9].contains 9 = true := by decide
end
/-! RPk (printed by gen_RPk.py): what is a kind, by the papers' own names. -/
section
variable {k n : Nat} {s : S} {Q : D → S → Prop} {X : Nat → S → Prop} {c m : Nat} {W : List Nat} {d : D}
theorem is_name_eq3 (h : Any c W s m d) (hc : c ≤ 100000) : callK G (k + 1) i_is_name [d] s = .ok (.bl (nameD d)) s := by
  refine Ok.eq ?_
  rw [Ok_call G_is_name]
  unfold d_is_name
  cases h with
  | lst hn h => (wp_walk using isi_ref h); rfl
  | dic hn h => (wp_walk using isi_dic h); rfl
  | str hl =>
    rename_i x
    (wp_walk using len_str (show x.length ≤ 1000000 by omega))
    have hcd := cd_len (x := x)
    refine kOrT_split (fun h1 => ?_) (fun h1 => ?_)
    · have h1 := of_decide_eq_true h1
      (wp_walk using Ok_ok)
      have : decide (1 ≤ (cd x).length) = false := by rw [decide_eq_false_iff_not]; omega
      simp only [nameD, nameB, this, Bool.and_false, Bool.false_and]
    · have h1 := of_decide_eq_false h1
      (wp_walk using len_str (show x.length ≤ 1000000 by omega))
      refine kIf_split (fun h2 => ?_) (fun h2 => ?_)
      · have h2 := of_decide_eq_true h2
        (wp_walk using Ok_ok)
        have : decide ((cd x).length ≤ 8) = false := by rw [decide_eq_false_iff_not]; omega
        simp only [nameD, nameB, this, Bool.and_false, Bool.false_and]
      · have h2 := of_decide_eq_false h2
        (wp_walk using Ok_ok)
        have e1 : decide (1 ≤ (cd x).length) = true := by rw [decide_eq_true_eq]; omega
        have e2 : decide ((cd x).length ≤ 8) = true := by rw [decide_eq_true_eq]; omega
        refine loopAt _ (fun i e t => t = s ∧ (∃ x1, e = [some (.str x), x1]) ∧ ∀ c ∈ (cd x).take i, small c) ⟨rfl, ⟨_, rfl⟩, by simp⟩ (fun _ _ _ _ => Grd_nil) ?_ ?_
        · rintro i d e t hd ⟨rfl, ⟨x1, rfl⟩, ha⟩
          rw [List.getElem?_map, Option.map_eq_some_iff] at hd
          obtain ⟨ch, hch, rfl⟩ := hd
          refine ⟨_, rfl, ?_⟩
          (wp_walk using nin_sign)
          refine kIf_split (fun h3 => ?_) (fun h3 => ?_)
          · (wp_walk using Ok_ok)
            have h3 : ¬ small ch := by rw [← letters_iff]; simpa only [Bool.not_eq_true', decide_eq_false_iff_not] using h3
            have : ((cd x).all fun c => decide (small c)) = false := by
              rw [List.all_eq_false]; exact ⟨ch, List.mem_of_getElem? hch, by simpa using h3⟩
            simp only [nameD, nameB, this, Bool.and_false, Bool.false_and]
          · have h3 : small ch := by rw [← letters_iff]; simpa only [Bool.not_eq_false', decide_eq_true_eq] using h3
            (wp_walk using Ok_ok)
            refine ⟨⟨_, rfl⟩, fun c hc => ?_⟩
            rw [List.take_succ, hch, List.mem_append] at hc
            rcases hc with hc | hc
            · exact ha c hc
            · simp at hc; subst hc; exact h3
        · rintro e t ⟨rfl, ⟨x1, rfl⟩, ha⟩
          rw [List.length_map, List.take_length] at ha
          (wp_walk using Ok_ok)
          have : ((cd x).all fun c => decide (small c)) = true := by
            rw [List.all_eq_true]; exact fun c hc => by simpa using ha c hc
          simp only [nameD, nameB, this, e1, e2, Bool.and_self]
  | _ => (wp_walk using Ok_ok); rfl
theorem are_fields_ok3 {f : D → Int} {lev : Nat} (hc : c ≤ 100000)
    (ih : ∀ {s : S} {d : D} {dd : Int} {Q : D → S → Prop}, Any c W s m d → (∀ s', Fr [] s s' → Q (.bl (inR dd (f d))) s') → Ok (callK G lev i_is_kind_within [d, .int dd] s) Q fun _ _ => False)
    (hl1 : 1 ≤ lev) {t : D} {dd : Int} (ht : Any c W s (m + 2) t) (h : ∀ s', Fr [] s s' → Q (.bl (match t with | .tup fs => decide (1 ≤ fs.length) && decide (fs.length < 7) && fieldsB f dd [] fs | _ => false)) s') : Ok (callK G (lev + 1) i_are_fields [t, .int dd] s) Q X := by
  obtain ⟨lev, rfl⟩ : ∃ l, lev = l + 1 := ⟨lev - 1, by omega⟩
  rw [Ok_call G_are_fields]
  unfold d_are_fields
  cases ht with
  | lst hn h' => (wp_walk using isi_ref h'); exact h _ Fr.refl
  | dic hn h' => (wp_walk using isi_dic h'); exact h _ Fr.refl
  | tup hl hd =>
    rename_i fs
    (wp_walk using Ok_ok)
    refine kOrT_split (fun h1 => ?_) (fun h1 => ?_)
    · have h1 := of_decide_eq_true h1
      (wp_walk using Ok_ok)
      have e : decide (1 ≤ fs.length) = false := by rw [decide_eq_false_iff_not]; omega
      have := h s Fr.refl
      simpa only [e, Bool.false_and] using this
    · have h1 := of_decide_eq_false h1
      (wp_walk using Ok_ok)
      refine kIf_split (fun h2 => ?_) (fun h2 => ?_)
      · have h2 := of_decide_eq_true h2
        (wp_walk using Ok_ok)
        have e : decide (fs.length < 7) = false := by rw [decide_eq_false_iff_not]; omega
        have := h s Fr.refl
        simpa only [e, Bool.and_false, Bool.false_and] using this
      · have h2 := of_decide_eq_false h2
        have e1 : decide (1 ≤ fs.length) = true := by rw [decide_eq_true_eq]; omega
        have e2 : decide (fs.length < 7) = true := by rw [decide_eq_true_eq]; omega
        simp only [e1, e2, Bool.true_and] at h
        (wp_walk using Ok_ok)
        refine Al_lst fun kn s1 hkn hN f1 => ?_
        (wp_walk using Ok_ok)
        refine OkS_loopF (fun r e t => ∃ (x3 : Option D) (seen : List Str), e = [some (.tup fs), some (.int dd), some (.ref kn), x3] ∧ Fr [] s t ∧ lsAt t kn = some (seen.map D.str) ∧ seen.length + r.length = fs.length ∧ fieldsB f dd seen r = fieldsB f dd [] fs ∧ ∀ d ∈ r, d ∈ fs) (fun _ _ _ _ => Grd_nil) ?_ ?_ _ _ _ ⟨_, [], rfl, f1, hN, by simp, rfl, fun d h => h⟩
        · rintro d r e t ⟨x3, seen, rfl, fr, hN, hlen, hB, hsub⟩
          have hdm := hsub d List.mem_cons_self
          have hda := (hd d hdm).mv0 fr
          refine ⟨_, rfl, ?_⟩
          have bad : (∀ x k, d ≠ .tup [.str x, k]) → ∀ {P : Prop}, (Q (.bl false) t → P) → P := fun hb {P} hp => hp (by
            have := h t fr
            rw [← hB, fieldsB_bad hb] at this
            exact this)
          cases hda with
          | lst hn h' => (wp_walk using isi_ref h'); exact bad (by intro x k e; cases e) id
          | dic hn h' => (wp_walk using isi_dic h'); exact bad (by intro x k e; cases e) id
          | tup hl2 hd2 =>
            rename_i ds
            by_cases hl3 : ds.length = 2
            · obtain ⟨a, b, rfl⟩ : ∃ a b, ds = [a, b] := by
                match ds, hl3 with
                | [a, b], _ => exact ⟨a, b, rfl⟩
              have ha := hd2 a (by simp)
              have hb := hd2 b (by simp)
              (wp_walk using is_name_eq3 (k := lev) ha hc)
              cases ha with
              | str hx =>
                rename_i x
                by_cases hnx : nameB x = true
                · have e3 : nameD (.str x) = true := hnx
                  (wp_walk using e3, in_names hN)
                  refine kOrT_split (fun h3 => ?_) (fun h3 => ?_)
                  · (wp_walk using Ok_ok)
                    have := h t fr
                    rw [← hB, fieldsB_cons, h3] at this
                    simpa only [Bool.not_true, Bool.and_false, Bool.false_and] using this
                  · (wp_walk using Ok_ok)
                    have hq := ih (s := t) (d := b) (dd := dd) (Q := fun v s' => Fr [] t s' ∧ v = .bl (inR dd (f b))) hb fun s' f' => ⟨f', rfl⟩
                    refine hq.imp ?_ fun _ _ h => h.elim
                    rintro v s2 ⟨f2, rfl⟩
                    (wp_walk using Ok_ok)
                    have fr2 := fr.trans f2
                    refine kIf_split (fun h4 => ?_) (fun h4 => ?_)
                    · have h4 : inR dd (f b) = false := by simpa using h4
                      (wp_walk using Ok_ok)
                      have := h s2 fr2
                      rw [← hB, fieldsB_cons, h4] at this
                      simpa only [Bool.and_false, Bool.false_and] using this
                    · have h4 : inR dd (f b) = true := by simpa using h4
                      have hN2 := f2.ls (by simp) hN
                      (wp_walk using kM_append hN2)
                      rw [append_ref hN2 (by simp only [List.length_map]; omega)]
                      (wp_walk using Ok_ok)
                      refine ⟨_, seen ++ [x], rfl, fr2.new hkn, by rw [lsAt_set hN2]; simp, by simp at hlen ⊢; omega, ?_, fun d h => hsub d (List.mem_cons_of_mem _ h)⟩
                      rw [← hB, fieldsB_cons, hnx, h3, h4]
                      simp only [Bool.not_false, Bool.and_self, Bool.true_and]
                · have e3 : nameD (.str x) = false := by simpa [nameD] using hnx
                  (wp_walk using e3)
                  have := h t fr
                  have hnx : nameB x = false := by simpa using hnx
                  rw [← hB, fieldsB_cons, hnx] at this
                  simpa only [Bool.false_and] using this
              | _ => (wp_walk using Ok_ok); exact bad (by intro x k e; cases e) id
            · have e : ((ds.length : Int) == 2) = false := by simpa using (by omega : (ds.length : Int) ≠ 2)
              (wp_walk using e)
              exact bad (by intro x k e; cases e; simp at hl3) id
          | _ => (wp_walk using Ok_ok); exact bad (by intro x k e; cases e) id
        · rintro e t ⟨x3, seen, rfl, fr, hN, hlen, hB, hsub⟩
          (wp_walk using Ok_ok)
          have := h t fr
          rw [← hB, fieldsB_nil] at this
          exact this
  | _ => (wp_walk using Ok_ok); exact h _ Fr.refl
theorem kind_within_ok3 (hc : c ≤ 100000) : ∀ (n : Nat) {k : Nat} {s : S} {Q : D → S → Prop} {X : Nat → S → Prop} {d : D} {dd : Int}, Any c W s n d → (∀ s', Fr [] s s' → Q (.bl (inR dd (depF n d))) s') → Ok (callK G (k + 2 * n + 1) i_is_kind_within [d, .int dd] s) Q X := by
  intro n
  induction n with
  | zero =>
    intro k s Q X d dd hd h
    rw [Ok_call G_is_kind_within]
    unfold d_is_kind_within
    have e0 : depF 0 d = 0 := by unfold depF; rfl
    rw [e0, inR_0] at h
    (wp_walk using Ok_ok)
    refine kOrT_split (fun h1 => ?_) (fun h1 => ?_)
    · (wp_walk using Ok_ok); exact h _ Fr.refl
    · cases hd with
      | lst hn h' => (wp_walk using isi_ref h'); exact h _ Fr.refl
      | dic hn h' => (wp_walk using isi_dic h'); exact h _ Fr.refl
      | _ => (wp_walk using Ok_ok); exact h _ Fr.refl
  | succ n ih =>
    intro k s Q X d dd hd h
    rw [show k + 2 * (n + 1) + 1 = (k + 2 * n + 1 + 1) + 1 by omega, Ok_call G_is_kind_within]
    unfold d_is_kind_within
    (wp_walk using Ok_ok)
    refine kOrT_split (fun h1 => ?_) (fun h1 => ?_)
    · have h1 := of_decide_eq_true h1
      rw [inR_lt h1] at h
      (wp_walk using Ok_ok); exact h _ Fr.refl
    · have h1 := of_decide_eq_false h1
      have hdt := hd
      cases hd with
      | lst hn h' => (wp_walk using isi_ref h'); exact h _ Fr.refl
      | dic hn h' => (wp_walk using isi_dic h'); exact h _ Fr.refl
      | tup hl hds =>
        rename_i ds
        match ds, hl, hds, hdt, h with
        | [], _, _, _, h => (wp_walk using Ok_ok); exact h _ Fr.refl
        | a :: r, hl, hds, hdt, h =>
          have ha := hds a (by simp)
          have hpos : decide (((a :: r).length : Int) < 1) = false := by rw [decide_eq_false_iff_not, List.length_cons]; omega
          have zero : (∀ w, a ≠ .str w) → Q (.bl false) s := fun hz => by
            have := h s Fr.refl
            rw [depF_tup (by rintro ⟨w, e⟩; cases e; exact hz _ rfl) (by rintro ⟨w, d, e⟩; cases e; exact hz _ rfl), inR_0] at this
            exact this
          rw [List.length_cons] at hpos
          cases ha with
          | lst hn h' => (wp_walk using hpos, isi_ref h'); exact zero (by intro w e; cases e)
          | dic hn h' => (wp_walk using hpos, isi_dic h'); exact zero (by intro w e; cases e)
          | str hx =>
            rename_i w
            match r, hl, hds, hdt, h with
            | [], hl, hds, hdt, h =>
              by_cases hw : w = "text"
              · subst hw
                (wp_walk using Ok_ok)
                have := h s Fr.refl
                have e : depF (n + 1) (.tup [.str "text"]) = 1 := rfl
                have e2 : inR dd 1 = true := by unfold inR; simp; omega
                rw [e, e2] at this
                exact this
              · have hw2 : (w == ("text" : Str)) = false := by simpa using hw
                (wp_walk using hw2)
                have := h s Fr.refl
                have e : depF (n + 1) (.tup [.str w]) = 0 := by unfold depF; rw [if_neg hw]
                rw [e, inR_0] at this
                exact this
            | [b], hl, hds, hdt, h =>
              have hb := hds b (by simp)
              have e : depF (n + 1) (.tup [.str w, b]) = tagZ (depF n) w b := rfl
              rw [e] at h
              by_cases hw : w = "text"
              · subst hw
                (wp_walk using Ok_ok)
                have := h s Fr.refl
                have e2 : tagZ (depF n) "text" b = 0 := by unfold tagZ; rw [if_neg (by decide), if_neg (by decide), if_neg (by decide)]
                rw [e2, inR_0] at this
                exact this
              have w1 : (w == ("text" : Str)) = false := by simpa using hw
              by_cases hw2 : w = "num"
              · subst hw2
                have e2 : tagZ (depF n) "num" b = numZ b := by unfold tagZ; rw [if_pos rfl]
                rw [e2] at h
                (wp_walk using w1, is_whole_eq (k := k + 2 * n + 1) hb)
                cases hb with
                | int hi =>
                  rename_i i
                  (wp_walk using Ok_ok)
                  refine kAnd_split (fun h2 => ?_) (fun h2 => ?_)
                  · have h2 := of_decide_eq_true h2
                    (wp_walk using Ok_ok)
                    have := h s Fr.refl
                    by_cases h3 : i ≤ 4
                    · have e3 : decide (i ≤ 4) = true := decide_eq_true h3
                      rw [numZ, if_pos ⟨h2, h3⟩] at this
                      rw [e3]
                      have e4 : inR dd 1 = true := by unfold inR; simp; omega
                      rw [e4] at this; exact this
                    · have e3 : decide (i ≤ 4) = false := decide_eq_false h3
                      rw [numZ, if_neg (fun z => h3 z.2), inR_0] at this
                      rw [e3]; exact this
                  · have h2 := of_decide_eq_false h2
                    have := h s Fr.refl
                    rw [numZ, if_neg (fun z => h2 z.1), inR_0] at this
                    (wp_walk using Ok_ok); exact this
                | _ => have := h s Fr.refl; rw [show numZ _ = 0 from rfl, inR_0] at this; (wp_walk using Ok_ok); exact this
              have w2 : (w == ("num" : Str)) = false := by simpa using hw2
              by_cases hw3 : w = "row"
              · subst hw3
                have e2 : tagZ (depF n) "row" b = rowZ (depF n b) := by unfold tagZ; rw [if_neg (by decide), if_pos rfl]
                rw [e2] at h
                have e3 : inR dd (rowZ (depF n b)) = inR (dd - 1) (depF n b) := rowZ_inR (depF_nn n b)
                rw [e3] at h
                (wp_walk using w1, w2)
                exact (ih (k := k + 1) hb h |> fun q => by rw [show k + 1 + 2 * n + 1 = k + 2 * n + 1 + 1 by omega] at q; exact q)
              have w3 : (w == ("row" : Str)) = false := by simpa using hw3
              by_cases hw4 : w = "rec" ∨ w = "pick"
              · have e2 : tagZ (depF n) w b = fsZ (depF n) b := by unfold tagZ; rw [if_neg hw2, if_neg hw3, if_pos hw4]
                rw [e2] at h
                have go : Ok (callK G (k + 2 * n + 1 + 1) i_are_fields [b, .int (dd - 1)] s) Q X := by
                  refine are_fields_ok3 (W := W) (m := n) (f := depF n) (lev := k + 2 * n + 1) hc (fun {s d dd Q} hd hq => ih (k := k) hd hq) (by omega) (hb.deep (by omega)) fun s' f' => ?_
                  have := h s' f'
                  cases b with
                  | tup fs =>
                    have e5 : (decide (1 ≤ fs.length) && decide (fs.length < 7) && fieldsB (depF n) (dd - 1) [] fs) = inR dd (fsZ (depF n) (.tup fs)) := by
                      by_cases h7 : fs.length < 7
                      · have e6 : fsZ (depF n) (.tup fs) = fieldsZ (scanF (depF n) [] fs) := if_pos h7
                        rw [e6, decide_eq_true h7]
                        unfold fieldsB
                        cases hs : scanF (depF n) [] fs with
                        | none => simp [fieldsZ, inR_0]
                        | some zs =>
                          by_cases hz : zs = []
                          · subst hz
                            have : fs = [] := by
                              cases fs with
                              | nil => rfl
                              | cons d r =>
                                unfold scanF at hs
                                split at hs
                                · split at hs
                                  · rw [Option.map_eq_some_iff] at hs; obtain ⟨_, _, e⟩ := hs; cases e
                                  · cases hs
                                · cases hs
                            subst this
                            simp [fieldsZ, inR_0]
                          · have hne : 1 ≤ fs.length := by
                              cases fs with
                              | nil => simp only [scanF, Option.some.injEq] at hs; exact absurd hs.symm hz
                              | cons _ _ => simp
                            rw [decide_eq_true hne]
                            simp only [Bool.and_self, Bool.true_and]
                            exact all_inR (scan_nn (depF_nn n) _ _ _ hs) hz
                      · have e6 : fsZ (depF n) (.tup fs) = 0 := if_neg h7
                        rw [e6, decide_eq_false h7, inR_0]; simp
                    dsimp only
                    rw [e5]; exact this
                  | _ => rw [show fsZ (depF n) _ = 0 from rfl, inR_0] at this; exact this
                rcases hw4 with rfl | rfl
                · (wp_walk using w1, w2, w3); exact go
                · (wp_walk using w1, w2, w3, show ((("pick" : Str) == "rec") = false) from by decide); exact go
              · have w4 : (w == ("rec" : Str)) = false := by simpa using fun e => hw4 (.inl e)
                have w5 : (w == ("pick" : Str)) = false := by simpa using fun e => hw4 (.inr e)
                have e2 : tagZ (depF n) w b = 0 := by unfold tagZ; rw [if_neg hw2, if_neg hw3, if_neg hw4]
                rw [e2, inR_0] at h
                (wp_walk using w1, w2, w3, w4, w5)
                exact h _ Fr.refl
            | b :: b2 :: r, hl, hds, hdt, h =>
              have := h s Fr.refl
              rw [depF_tup (by rintro ⟨w, e⟩; cases e) (by rintro ⟨w, d, e⟩; cases e), inR_0] at this
              have e7 : (((r.length + 1 + 1 + 1 : Nat) : Int) == 2) = false := by simpa using (by omega : ((r.length + 1 + 1 + 1 : Nat) : Int) ≠ 2)
              have e8 : (((r.length + 1 + 1 + 1 : Nat) : Int) == 1) = false := by simpa using (by omega : ((r.length + 1 + 1 + 1 : Nat) : Int) ≠ 1)
              have hpos : decide (((r.length + 1 + 1 + 1 : Nat) : Int) < 1) = false := by rw [decide_eq_false_iff_not]; omega
              by_cases hw : w = "text"
              · subst hw; (wp_walk using hpos, e7, e8); exact this
              · have hw2 : (w == ("text" : Str)) = false := by simpa using hw
                (wp_walk using hpos, e7, hw2); exact this
          | _ => (wp_walk using hpos); exact zero (by intro w e; cases e)
      | _ => (wp_walk using Ok_ok); exact h _ Fr.refl
theorem is_kind_ok3 (hc : c ≤ 100000) {n : Nat} (hd : Any c W s n d) (h : ∀ s', Fr [] s s' → Q (.bl (inR 5 (depF n d))) s') : Ok (callK G (k + 2 * n + 2) i_is_kind [d] s) Q X := by
  rw [Ok_call G_is_kind]
  unfold d_is_kind
  (wp_walk using Ok_ok)
  exact kind_within_ok3 (k := k) hc n hd h
end
/-! RPa: any text read as a kind: a parser over codes, and that the program's readers are it. -/
/-! ### the parser -/
def wrd (l : List Nat) : List Nat := l.takeWhile small1
def aft (l : List Nat) : List Nat := l.dropWhile small1
theorem wrd_aft {l : List Nat} : l = wrd l ++ aft l := List.takeWhile_append_dropWhile.symm
theorem wrd_small {l : List Nat} : ∀ c ∈ wrd l, small c := fun c hc => small1_iff.mp (by
  have := List.all_takeWhile (l := l) (p := small1)
  rw [List.all_eq_true] at this
  exact this c hc)
theorem aft_ends : ∀ {l : List Nat}, Ends1 (aft l)
  | [] => fun c r e => by cases e
  | a :: l => fun c r e => by
    unfold aft at e
    rw [List.dropWhile_cons] at e
    split at e
    · exact aft_ends (l := l) c r e
    · rename_i h
      cases e
      exact fun hs => h (small1_iff.mpr hs)
def litP (x l : List Nat) : Option (List Nat) := if x <+: l then some (l.drop x.length) else none
theorem lit_some {x l r : List Nat} (h : litP x l = some r) : l = x ++ r := by
  unfold litP at h
  split at h
  · rename_i hp
    cases h
    obtain ⟨t, rfl⟩ := hp
    rw [List.drop_left]
  · cases h
theorem lit_app {x r : List Nat} : litP x (x ++ r) = some r := by
  unfold litP
  rw [if_pos (List.prefix_append x r), List.drop_left]
def nameP (l : List Nat) : Option (Str × List Nat) := if nameB (mkS (wrd l)) then (match litP [32] (aft l) with | some r => some (mkS (wrd l), r) | none => none) else none
def figP (lo hi : Int) (l : List Nat) : Option (Int × List Nat) := match l with
  | c :: r => if lo + 48 ≤ (c : Int) ∧ (c : Int) ≤ hi + 48 then some ((c : Int) - 48, r) else none
  | [] => none
def fieldsP (kp : List Nat → Option (D × List Nat)) : Nat → List Nat → Option (List (Str × D) × List Nat)
  | 0, _ => none
  | f + 1, l => match nameP l with
    | none => none
    | some (x, r) => match kp r with
      | none => none
      | some (k, r2) => match litP [41] r2 with
        | some r3 => some ([(x, k)], r3)
        | none => match litP [44, 32] r2 with
          | none => none
          | some r4 => match fieldsP kp f r4 with
            | none => none
            | some (fs, r5) => some ((x, k) :: fs, r5)
def kindP : Nat → List Nat → Option (D × List Nat)
  | 0, _ => none
  | n + 1, l =>
    if wrd l = cd "text" then some (.tup [.str "text"], aft l)
    else match litP [32] (aft l) with
      | none => none
      | some r =>
        if wrd l = cd "num" then (match figP 1 4 r with | some (v, r2) => some (.tup [.str "num", .int v], r2) | none => none)
        else if wrd l = cd "row" then (match kindP n r with | some (k, r2) => some (.tup [.str "row", k], r2) | none => none)
        else if wrd l = cd "rec" ∨ wrd l = cd "pick" then (match litP [40] r with
          | none => none
          | some r2 => match fieldsP (kindP n) (r2.length + 1) r2 with | some (fs, r3) => some (.tup [.str (mkS (wrd l)), .tup (fs.map fld)], r3) | none => none)
        else none
/-! ### the walks -/
theorem cutS_any {x : Str} {pre l : List Nat} (h : cd x = pre ++ l) (n : Nat) : cutS x (some (pre.length : Int)) (some ((pre.length : Int) + (n : Int))) = mkS (l.take n) := by
  rcases Nat.lt_or_ge l.length n with h1 | h1
  · have hl : x.length = pre.length + l.length := by rw [cd_len, h, List.length_append]
    apply cd_inj
    show (((cd x).drop (HT.sIx x.length 0 (some (pre.length : Int)))).take (HT.sIx x.length x.length (some ((pre.length : Int) + (n : Int))) - HT.sIx x.length 0 (some (pre.length : Int)))) = _
    simp only [HT.sIx, if_neg (show ¬ (pre.length : Int) < 0 by omega), if_neg (show ¬ (pre.length : Int) + (n : Int) < 0 by omega)]
    rw [show min ((pre.length : Int)).toNat x.length = pre.length by omega, show min ((pre.length : Int) + (n : Int)).toNat x.length = pre.length + l.length by omega, h, cd_mkS, List.drop_left, show pre.length + l.length - pre.length = l.length by omega, List.take_of_length_le (Nat.le_refl _), List.take_of_length_le (by omega)]
  · have := cutS_at (x := x) (pre := pre) (w := l.take n) (post := l.drop n) (by rw [h, List.append_assoc, List.take_append_drop])
    rw [List.length_take, Nat.min_eq_left h1, Int.natCast_add] at this
    exact this
theorem take_eq {x l : List Nat} : l.take x.length = x ↔ x <+: l := by
  constructor
  · intro h
    have := List.take_append_drop x.length l
    rw [h] at this
    exact ⟨_, this⟩
  · rintro ⟨t, rfl⟩; simp
section
variable {L n : Nat} {s : S} {Q : D → S → Prop} {X : Nat → S → Prop} {T : Str} {pre w post l : List Nat}
theorem past_any {x : Str} (hL : 1 ≤ L) (hT : cd T = pre ++ l) (hl : T.length ≤ 900000) (hx : x.length ≤ 1000) (h1 : ∀ r, litP (cd x) l = some r → l = cd x ++ r → Q (.int ((pre.length + (cd x).length : Nat) : Int)) s) (h2 : litP (cd x) l = none → X 8 s) : Ok (callK G L i_past [.str T, .int (pre.length : Int), .str x] s) Q X := by
  cases hp : litP (cd x) l with
  | some r =>
    have e := lit_some hp
    refine past_ok hL (post := r) (by rw [hT, e, List.append_assoc]) (by omega) ?_
    have := h1 r hp e
    rw [← cd_len] at this
    exact this
  | none =>
    obtain ⟨k, rfl⟩ : ∃ k, L = k + 1 := ⟨L - 1, by omega⟩
    have hno : ¬ cd x <+: l := fun hq => by unfold litP at hp; rw [if_pos hq] at hp; cases hp
    have e := cutS_any hT x.length
    have ne : (mkS (l.take x.length) == x) = false := by
      rw [beq_eq_false_iff_ne]
      intro q
      have := congrArg cd q
      rw [cd_mkS] at this
      rw [cd_len] at this
      exact hno (take_eq.mp this)
    rw [Ok_call G_past]
    unfold d_past
    (wp_walk using len_str (x := x) (s := s) (by omega), slc_str (x := T) (s := s) (show T.length ≤ 1000000 by omega), e, ne)
    exact h2 hp
theorem word_any (hL : 1 ≤ L) (hT : cd T = pre ++ l) (hl : T.length ≤ 900000) (h : Q (.tup [.str (mkS (wrd l)), .int ((pre.length + (wrd l).length : Nat) : Int)]) s) : Ok (callK G L i_word_from [.str T, .int (pre.length : Int)] s) Q X :=
  word_from_ok hL (w := wrd l) (post := aft l) (by rw [List.append_assoc, ← wrd_aft]; exact hT) hl wrd_small aft_ends h
theorem name_any (hL : 2 ≤ L) (hT : cd T = pre ++ l) (hl : T.length ≤ 90000) (h1 : ∀ x r, nameP l = some (x, r) → l = cd x ++ 32 :: r → nameB x = true → Q (.tup [.str x, .int ((pre.length + (cd x).length + 1 : Nat) : Int)]) s) (h2 : nameP l = none → X 8 s) : Ok (callK G L i_name_from [.str T, .int (pre.length : Int)] s) Q X := by
  obtain ⟨k, rfl⟩ : ∃ k, L = k + 1 + 1 := ⟨L - 2, by omega⟩
  rw [Ok_call G_name_from]
  unfold d_name_from
  (wp_walk using Ok_ok)
  refine word_any (by omega) hT (by omega) ?_
  (wp_walk using Ok_ok)
  have hlen : T.length = pre.length + l.length := by rw [cd_len, hT, List.length_append]
  have hwl : (wrd l).length ≤ l.length := by
    have := congrArg List.length (wrd_aft (l := l))
    rw [List.length_append] at this; omega
  have hn := is_name_eq3 (k := k) (s := s) (c := 90000) (W := []) (m := 0) (d := .str (mkS (wrd l))) (.str (by rw [mkS_len]; omega)) (by decide)
  have hn : callK G (k + 1) i_is_name [.str (mkS (wrd l))] s = .ok (.bl (nameB (mkS (wrd l)))) s := hn
  (wp_walk using hn)
  have e9 : nameP l = if nameB (mkS (wrd l)) then (match litP [32] (aft l) with | some r => some (mkS (wrd l), r) | none => none) else none := rfl
  refine kIf_split (fun hb => ?_) (fun hb => ?_)
  · have hb : nameB (mkS (wrd l)) = false := by simpa using hb
    (wp_walk using Ok_ok)
    exact h2 (by rw [e9, hb]; rfl)
  · have hb : nameB (mkS (wrd l)) = true := by simpa using hb
    rw [hb, if_pos rfl] at e9
    (wp_walk using Ok_ok)
    rw [← List.length_append]
    refine past_any (x := " ") (l := aft l) (by omega) (by rw [List.append_assoc, ← wrd_aft]; exact hT) (by omega) (by decide) (fun r hr er => ?_) (fun hr => ?_)
    · (wp_walk using Ok_ok)
      have hr : litP [32] (aft l) = some r := hr
      rw [hr] at e9
      have := h1 (mkS (wrd l)) r e9 (by
        rw [cd_mkS]
        have := wrd_aft (l := l)
        rw [er] at this
        exact this) hb
      rw [cd_mkS] at this
      rw [List.length_append]
      exact this
    · (wp_walk using Ok_ok)
      have hr : litP [32] (aft l) = none := hr
      exact h2 (by rw [e9, hr])
theorem fig_any {lo hi : Int} (hL : 1 ≤ L) (hT : cd T = pre ++ l) (hl : T.length ≤ 900000) (h0 : 0 ≤ lo) (hlo : lo ≤ 4) (h4 : hi ≤ 4) (hhi : 0 ≤ hi) (h1 : ∀ v r, figP lo hi l = some (v, r) → l = (48 + v.toNat) :: r → lo ≤ v → v ≤ hi → Q (.tup [.int v, .int ((pre.length + 1 : Nat) : Int)]) s) (h2 : figP lo hi l = none → X 8 s) : Ok (callK G L i_figure_from [.str T, .int (pre.length : Int), .int lo, .int hi] s) Q X := by
  cases hp : figP lo hi l with
  | some p =>
    obtain ⟨v, r⟩ := p
    have h9 := hp
    unfold figP at hp
    split at hp
    · rename_i c r'
      split at hp
      · rename_i hb
        cases hp
        have e : c :: r = (48 + ((c : Int) - 48).toNat) :: r := by congr 1; omega
        exact figure_from_ok (v := (c : Int) - 48) (post := r) hL (by rw [hT, ← e]) hl h0 (by omega) (by omega) h4 (h1 _ _ h9 e (by omega) (by omega))
      · cases hp
    · cases hp
  | none =>
    obtain ⟨k, rfl⟩ : ∃ k, L = k + 1 := ⟨L - 1, by omega⟩
    rw [Ok_call G_figure_from]
    unfold d_figure_from
    (wp_walk using it_rng2 (i := lo) (j := hi + 1) (s := s) (by omega))
    refine loopAt _ (fun i e t => ∃ x4, e = [some (.str T), some (.int (pre.length : Int)), some (.int lo), some (.int hi), x4] ∧ t = s) ⟨_, rfl, rfl⟩ (fun _ _ _ _ => Grd_nil) ?_ ?_
    · rintro i d e t hd ⟨x4, rfl, rfl⟩
      obtain ⟨hi2, rfl⟩ := rng_at hd
      refine ⟨_, rfl, ?_⟩
      have e := cutS_any hT 1
      have ne : (mkS (l.take 1) == mkS [48 + (lo + (i : Int)).toNat]) = false := by
        rw [beq_eq_false_iff_ne]
        intro q
        have q := congrArg cd q
        rw [cd_mkS, cd_mkS] at q
        cases l with
        | nil => cases q
        | cons c r =>
          injection q with q _
          unfold figP at hp
          dsimp only at hp
          rw [if_pos (by omega)] at hp
          cases hp
      rw [show ((1 : Nat) : Int) = 1 from rfl] at e
      (wp_walk using slc_str (x := T) (s := t) (show T.length ≤ 1000000 by omega), e, str_fig (s := t) (show 0 ≤ lo + (i : Int) by omega) (by omega), ne)
      exact ⟨_, rfl⟩
    · rintro e t ⟨x4, rfl, rfl⟩
      (wp_walk using Ok_ok)
      exact h2 hp
/-- what reading a kind at some depth does -/
def KfAny (n : Nat) : Prop := ∀ {L : Nat} {s : S} {Q : D → S → Prop} {X : Nat → S → Prop} {T : Str} {pre l : List Nat}, 2 * n + 2 ≤ L → n ≤ 5 → cd T = pre ++ l → T.length ≤ 90000 → (∀ k w r s', kindP n l = some (k, r) → l = w ++ r → Fr [] s s' → Q (.tup [k, .int ((pre.length + w.length : Nat) : Int)]) s') → (∀ s', kindP n l = none → Fr [] s s' → X 8 s') → Ok (callK G L i_kind_from [.str T, .int (pre.length : Int), .int (6 - (n : Int))] s) Q X
theorem fields_any {n : Nat} (ih : KfAny n) (hL : 2 * n + 3 ≤ L) (hn : n ≤ 5) (hT : cd T = pre ++ l) (hl : T.length ≤ 90000) (h1 : ∀ fs w r s', fieldsP (kindP n) (l.length + 1) l = some (fs, r) → l = w ++ r → Fr [] s s' → Q (.tup [.tup (fs.map fld), .int ((pre.length + w.length : Nat) : Int)]) s') (h2 : ∀ s', fieldsP (kindP n) (l.length + 1) l = none → Fr [] s s' → X 8 s') :
    Ok (callK G L i_fields_from [.str T, .int (pre.length : Int), .int (6 - (n : Int))] s) Q X := by
  obtain ⟨k, rfl⟩ : ∃ k, L = k + 1 := ⟨L - 1, by omega⟩
  have hlen : T.length = pre.length + l.length := by rw [cd_len, hT, List.length_append]
  obtain ⟨RR, hRR⟩ : ∃ RR, RR = fieldsP (kindP n) (l.length + 1) l := ⟨_, rfl⟩
  rw [← hRR] at h1 h2
  rw [Ok_call G_fields_from]
  unfold d_fields_from
  (wp_walk using Ok_ok)
  refine Al_lst fun kf s1 hkf hB f1 => ?_
  (wp_walk using Ok_ok)
  refine OkS_loopW (fun f e t => ∃ (p l' : List Nat) (x4 x5 : Option D) (acc : List (Str × D)), e = [some (.str T), some (.int (p.length : Int)), some (.int (6 - (n : Int))), some (.ref kf), x4, x5] ∧ Fr [] s t ∧ l'.length < f ∧ lsAt t kf = some (acc.map fld) ∧ acc.length + f ≤ l.length + 1 ∧ (∃ w', l = w' ++ l' ∧ p = pre ++ w') ∧ RR = (match fieldsP (kindP n) f l' with | some (fs, r) => some (acc ++ fs, r) | none => none)) ?_ 1000000 _ _ _ (show l.length + 1 < 1000000 by omega) ⟨pre, l, _, _, [], rfl, f1, by omega, hB, by simp, ⟨[], rfl, by simp⟩, by
    rw [hRR]
    cases fieldsP (kindP n) (l.length + 1) l with
    | none => rfl
    | some q => rfl⟩
  rintro f e t ⟨p, l', x4, x5, acc, rfl, fr, hf, hB, hacc, ⟨w', hw', rfl⟩, he⟩
  clear hRR
  obtain ⟨f, rfl⟩ : ∃ g, f = g + 1 := ⟨f - 1, by omega⟩
  (wp_walk using Ok_ok)
  refine ⟨fun _ => ⟨f, by omega, ?_⟩, fun hh => absurd hh (by simp)⟩
  have hT1 : cd T = (pre ++ w') ++ l' := by rw [hT, hw', List.append_assoc]
  rw [fieldsP] at he
  refine name_any (by omega) hT1 hl (fun x r hx ex hnm => ?_) (fun hx => ?_)
  · rw [hx] at he
    dsimp only at he
    (wp_walk using Ok_ok)
    have hT2 : cd T = (pre ++ w' ++ cd x ++ [32]) ++ r := by rw [hT1, ex]; simp
    rw [show (pre ++ w' : List Nat).length + (cd x).length + 1 = (pre ++ w' ++ cd x ++ [32] : List Nat).length by simp; omega]
    have hxl : l'.length = (cd x).length + 1 + r.length := by rw [ex, List.length_append, List.length_cons]; omega
    refine ih (by omega) hn hT2 hl (fun kd w2 r2 s2 hk e2 f2 => ?_) (fun s2 hk f2 => ?_)
    · rw [hk] at he
      dsimp only at he
      (wp_walk using Ok_ok)
      have hB2 := f2.ls (by simp) hB
      (wp_walk using kM_append hB2, append_ref hB2 (d := .tup [.str x, kd]) (by rw [List.length_map]; omega))
      have fr3 : Fr [] s (s2.set kf (.lst (acc.map fld ++ [.tup [.str x, kd]]))) := (fr.trans f2).new hkf
      have hB3 : lsAt (s2.set kf (.lst (acc.map fld ++ [.tup [.str x, kd]]))) kf = some ((acc ++ [(x, kd)]).map fld) := by rw [lsAt_set hB2, List.map_append]; rfl
      generalize s2.set kf (.lst (acc.map fld ++ [.tup [.str x, kd]])) = s3 at fr3 hB3
      have hT3 : cd T = (pre ++ w' ++ cd x ++ [32] ++ w2) ++ r2 := by rw [hT2, e2]; simp
      have hrl : r.length = w2.length + r2.length := by rw [e2, List.length_append]
      rw [show (pre ++ w' ++ cd x ++ [32] : List Nat).length + w2.length = (pre ++ w' ++ cd x ++ [32] ++ w2 : List Nat).length by rw [List.length_append (bs := w2)]]
      have e := cutS_any hT3 1
      rw [show ((1 : Nat) : Int) = 1 from rfl] at e
      (wp_walk using slc_str (x := T) (s := s3) (show T.length ≤ 1000000 by omega), e)
      cases h41 : litP [41] r2 with
      | some r3 =>
        have er := lit_some h41
        rw [h41] at he
        dsimp only at he
        have eq1 : (mkS (r2.take 1) == (")" : Str)) = true := by
          rw [show r2.take 1 = [41] by rw [er]; rfl]
          decide
        (wp_walk using eq1, b_tuple_ref hB3)
        have := h1 (acc ++ [(x, kd)]) (w' ++ cd x ++ [32] ++ w2 ++ [41]) r3 s3 he (by rw [hw', ex, e2, er]; simp) fr3
        rw [show pre.length + (w' ++ cd x ++ [32] ++ w2 ++ [41] : List Nat).length = (pre ++ w' ++ cd x ++ [32] ++ w2 : List Nat).length + 1 by simp; omega] at this
        exact this
      | none =>
        rw [h41] at he
        dsimp only at he
        have eq1 : (mkS (r2.take 1) == (")" : Str)) = false := by
          rw [beq_eq_false_iff_ne]
          intro q
          have q := congrArg cd q
          rw [cd_mkS] at q
          have : [41] <+: r2 := take_eq.mp q
          unfold litP at h41
          rw [if_pos this] at h41
          cases h41
        (wp_walk using eq1)
        refine past_any (x := ", ") (by omega) hT3 (by omega) (by decide) (fun r4 h4 e4 => ?_) (fun h4 => ?_)
        · have h4 : litP [44, 32] r2 = some r4 := h4
          rw [h4] at he
          dsimp only at he
          have hr4 : r2.length = 2 + r4.length := by rw [e4, List.length_append]; rfl
          (wp_walk using Ok_ok)
          refine ⟨(pre ++ w' ++ cd x ++ [32] ++ w2 ++ cd ", " : List Nat), r4, some (.str x), some kd, acc ++ [(x, kd)], ?_, fr3, by omega, hB3, by rw [List.length_append, List.length_singleton]; omega, ⟨w' ++ cd x ++ [32] ++ w2 ++ cd ", ", by rw [hw', ex, e2, e4]; simp, by simp⟩, ?_⟩
          · rw [List.length_append (bs := cd ", ")]
          · rw [he]
            cases fieldsP (kindP n) f r4 with
            | none => rfl
            | some q => obtain ⟨a, b⟩ := q; simp
        · have h4 : litP [44, 32] r2 = none := h4
          rw [h4] at he
          dsimp only at he
          (wp_walk using Ok_ok)
          exact h2 s3 he fr3
    · rw [hk] at he
      dsimp only at he
      (wp_walk using Ok_ok)
      exact h2 s2 he (fr.trans f2)
  · rw [hx] at he
    dsimp only at he
    (wp_walk using Ok_ok)
    exact h2 t he fr
theorem wrd_ne {x : Str} (h : ¬ wrd l = cd x) : (mkS (wrd l) == x) = false := by
  rw [beq_eq_false_iff_ne]
  intro q
  have q := congrArg cd q
  rw [cd_mkS] at q
  exact h q
theorem wrd_eq {x : Str} (h : wrd l = cd x) : (mkS (wrd l) == x) = true := by
  rw [h, mkS_cd]; simp
theorem kind_any : ∀ n : Nat, KfAny n := by
  intro n
  induction n with
  | zero =>
    intro L s Q X T pre l hL hn hT hl h1 h2
    obtain ⟨k, rfl⟩ : ∃ k, L = k + 1 := ⟨L - 1, by omega⟩
    rw [Ok_call G_kind_from]
    unfold d_kind_from
    (wp_walk using decide_eq_true (show (5 : Int) < 6 - ((0 : Nat) : Int) by omega))
    exact h2 s rfl Fr.refl
  | succ n ih =>
    intro L s Q X T pre l hL hn hT hl h1 h2
    obtain ⟨k, rfl⟩ : ∃ k, L = k + 1 := ⟨L - 1, by omega⟩
    obtain ⟨RR, hRR⟩ : ∃ RR, RR = kindP (n + 1) l := ⟨_, rfl⟩
    rw [← hRR] at h1 h2
    rw [kindP] at hRR
    have ed : (6 : Int) - ((n + 1 : Nat) : Int) + 1 = 6 - (n : Int) := by omega
    rw [Ok_call G_kind_from]
    unfold d_kind_from
    (wp_walk using decide_eq_false (show ¬ (5 : Int) < 6 - ((n + 1 : Nat) : Int) by omega))
    refine word_any (by omega) hT (by omega) ?_
    by_cases ht : wrd l = cd "text"
    · rw [if_pos ht] at hRR
      (wp_walk using wrd_eq ht)
      exact h1 _ (wrd l) (aft l) s hRR wrd_aft Fr.refl
    rw [if_neg ht] at hRR
    (wp_walk using wrd_ne ht)
    rw [← List.length_append]
    have hT1 : cd T = (pre ++ wrd l) ++ aft l := by rw [List.append_assoc, ← wrd_aft]; exact hT
    refine past_any (x := " ") (by omega) hT1 (by omega) (by decide) (fun r hr er => ?_) (fun hr => ?_)
    case refine_2 =>
      have hr : litP [32] (aft l) = none := hr
      rw [hr] at hRR
      (wp_walk using Ok_ok)
      exact h2 s hRR Fr.refl
    have hr : litP [32] (aft l) = some r := hr
    rw [hr] at hRR
    dsimp only at hRR
    have hT2 : cd T = (pre ++ wrd l ++ [32]) ++ r := by rw [hT1, er]; simp [show cd " " = [32] from rfl]
    have el : l = wrd l ++ [32] ++ r := by
      have := wrd_aft (l := l)
      rw [er] at this
      rw [List.append_assoc]; exact this
    rw [show (pre ++ wrd l : List Nat).length + (cd " ").length = (pre ++ wrd l ++ [32] : List Nat).length by rw [List.length_append (bs := [32])]; rfl]
    have pl : ∀ w : List Nat, pre.length + (wrd l ++ [32] ++ w : List Nat).length = (pre ++ wrd l ++ [32] : List Nat).length + w.length := fun w => by simp; omega
    by_cases hnm : wrd l = cd "num"
    · rw [if_pos hnm] at hRR
      (wp_walk using wrd_eq hnm)
      refine fig_any (by omega) hT2 (by omega) (by decide) (by decide) (by decide) (by decide) (fun v r2 hv e2 v1 v4 => ?_) (fun hv => ?_)
      · rw [hv] at hRR
        dsimp only at hRR
        (wp_walk using Ok_ok)
        have := h1 _ (wrd l ++ [32] ++ [48 + v.toNat]) r2 s hRR (by rw [List.append_assoc, List.singleton_append, ← e2]; exact el) Fr.refl
        rw [pl] at this
        exact this
      · rw [hv] at hRR
        dsimp only at hRR
        (wp_walk using Ok_ok)
        exact h2 s hRR Fr.refl
    rw [if_neg hnm] at hRR
    by_cases hrw : wrd l = cd "row"
    · rw [if_pos hrw] at hRR
      (wp_walk using wrd_ne hnm, wrd_eq hrw, ed)
      refine ih (by omega) (by omega) hT2 hl (fun kd w2 r2 s2 hk e2 f2 => ?_) (fun s2 hk f2 => ?_)
      · rw [hk] at hRR
        dsimp only at hRR
        (wp_walk using Ok_ok)
        have := h1 _ (wrd l ++ [32] ++ w2) r2 s2 hRR (by rw [List.append_assoc, ← e2]; exact el) f2
        rw [pl] at this
        exact this
      · rw [hk] at hRR
        dsimp only at hRR
        (wp_walk using Ok_ok)
        exact h2 s2 hRR f2
    rw [if_neg hrw] at hRR
    by_cases hrc : wrd l = cd "rec" ∨ wrd l = cd "pick"
    · rw [if_pos hrc] at hRR
      rcases hrc with e | e
      case' inl => (wp_walk using wrd_ne hnm, wrd_ne hrw, wrd_eq e)
      case' inr =>
        have n1 : ¬ wrd l = cd "rec" := fun q => by rw [q] at e; exact absurd e (by decide)
        (wp_walk using wrd_ne hnm, wrd_ne hrw, wrd_ne n1, wrd_eq e)
      all_goals
        refine past_any (x := "(") (by omega) hT2 (by omega) (by decide) (fun r2 h4 e2 => ?_) (fun h4 => ?_)
        · have h4 : litP [40] r = some r2 := h4
          rw [h4] at hRR
          dsimp only at hRR
          have e2 : r = 40 :: r2 := e2
          have hT3 : cd T = (pre ++ wrd l ++ [32, 40]) ++ r2 := by rw [hT2, e2]; simp
          rw [show (pre ++ wrd l ++ [32] : List Nat).length + (cd "(").length = (pre ++ wrd l ++ [32, 40] : List Nat).length by simp; rfl]
          (wp_walk using ed)
          refine fields_any ih (by omega) (by omega) hT3 hl (fun fs w3 r3 s3 hf e3 f3 => ?_) (fun s3 hf f3 => ?_)
          · rw [hf] at hRR
            dsimp only at hRR
            (wp_walk using Ok_ok)
            have := h1 _ (wrd l ++ [32] ++ (40 :: w3)) r3 s3 hRR (by rw [List.append_assoc, List.cons_append, ← e3, ← e2]; exact el) f3
            rw [show pre.length + (wrd l ++ [32] ++ (40 :: w3) : List Nat).length = (pre ++ wrd l ++ [32, 40] : List Nat).length + w3.length by simp; omega] at this
            exact this
          · rw [hf] at hRR
            dsimp only at hRR
            (wp_walk using Ok_ok)
            exact h2 s3 hRR f3
        · have h4 : litP [40] r = none := h4
          rw [h4] at hRR
          dsimp only at hRR
          (wp_walk using Ok_ok)
          exact h2 s hRR Fr.refl
    · rw [if_neg hrc] at hRR
      have n1 := wrd_ne (x := "rec") fun e => hrc (.inl e)
      have n2 := wrd_ne (x := "pick") fun e => hrc (.inr e)
      (wp_walk using wrd_ne hnm, wrd_ne hrw, n1, n2)
      exact h2 s hRR Fr.refl
end
/-! RPy (printed by gen_RPk.py): what is a paper, with a wider bound. -/
section
variable {k n L c m N : Nat} {s : S} {Q : D → S → Prop} {X : Nat → S → Prop} {W : List Nat}
theorem kind_ok3L (hc : c ≤ 100000) {d : D} (hL : 2 * N + 2 ≤ L) (hd : Any c W s N d) (h : ∀ s', Fr [] s s' → Q (.bl (inR 5 (depF N d))) s') : Ok (callK G L i_is_kind [d] s) Q X := by
  obtain ⟨K, rfl⟩ : ∃ k, L = k + 2 * N + 2 := ⟨L - 2 * N - 2, by omega⟩
  exact is_kind_ok3 hc hd h
theorem name_ok3L {d : D} (hL : 1 ≤ L) (hd : Any c W s m d) (hc : c ≤ 100000) (h : Q (.bl (nameD d)) s) : Ok (callK G L i_is_name [d] s) Q X := by
  obtain ⟨K, rfl⟩ : ∃ k, L = k + 1 := ⟨L - 1, by omega⟩
  exact Ok.of_eq (is_name_eq3 hd hc) h
theorem place_ok3Y {d : D} (hc : c ≤ 100000) (hL : 2 * N + 3 ≤ L) (hd : Any c W s N d) (h : ∀ s', Fr [] s s' → Q (.bl (placeB N d)) s') : Ok (callK G L i_is_place [d] s) Q X := by
  obtain ⟨K, rfl⟩ : ∃ k, L = k + 1 := ⟨L - 1, by omega⟩
  rw [Ok_call G_is_place]
  unfold d_is_place
  cases hd with
  | lst hn h' => (wp_walk using isi_ref h'); exact h _ Fr.refl
  | dic hn h' => (wp_walk using isi_dic h'); exact h _ Fr.refl
  | @tup m0 ds hl hds =>
    by_cases hl3 : ds.length = 3
    · obtain ⟨a, b, e, rfl⟩ : ∃ a b e, ds = [a, b, e] := by
        match ds, hl3 with
        | [a, b, e], _ => exact ⟨a, b, e, rfl⟩
      (wp_walk using Ok_ok)
      refine name_ok3L (by omega) (hds a (by simp)) hc ?_
      refine kAnd_split (fun h1 => ?_) (fun h1 => ?_)
      · (wp_walk using Ok_ok)
        refine way_ok (by omega) (hds b (by simp)) ?_
        refine kAnd_split (fun h2 => ?_) (fun h2 => ?_)
        · (wp_walk using Ok_ok)
          refine kind_ok3L (N := m0 + 1) hc (by omega) ((hds e (by simp)).deep (by omega)) fun s' f' => ?_
          (wp_walk using Ok_ok)
          have := h s' f'
          simpa only [placeB, h1, h2, Bool.true_and] using this
        · (wp_walk using Ok_ok)
          have := h s Fr.refl
          simpa only [placeB, h2, Bool.and_false, Bool.false_and] using this
      · (wp_walk using Ok_ok)
        have := h s Fr.refl
        simpa only [placeB, h1, Bool.false_and] using this
    · have e : ((ds.length : Int) == 3) = false := by simpa using (by omega : (ds.length : Int) ≠ 3)
      (wp_walk using e)
      have := h s Fr.refl
      rcases ds with _ | ⟨a, _ | ⟨b, _ | ⟨c2, _ | _⟩⟩⟩ <;> first | exact this | simp at hl3
  | _ => (wp_walk using Ok_ok); exact h _ Fr.refl
theorem are_places_ok3 {d : D} (hc : c ≤ 100000) (hL : 2 * N + 4 ≤ L) (hd : Any c W s N d) (h : ∀ s', Fr [] s s' → Q (.bl (placesB N d)) s') : Ok (callK G L i_are_places [d] s) Q X := by
  obtain ⟨K, rfl⟩ : ∃ k, L = k + 1 := ⟨L - 1, by omega⟩
  rw [Ok_call G_are_places]
  unfold d_are_places
  cases hd with
  | lst hn h' => (wp_walk using isi_ref h'); exact h _ Fr.refl
  | dic hn h' => (wp_walk using isi_dic h'); exact h _ Fr.refl
  | @tup m0 ps hl hds =>
    (wp_walk using Ok_ok)
    refine Al_ok fun kn s1 hkn hN f1 => ?_
    (wp_walk using Ok_ok)
    refine OkS_loopF (fun r e t => ∃ (x2 : Option D) (seen : List Str), e = [some (.tup ps), some (.ref kn), x2] ∧ Fr [] s t ∧ dcAt t kn = some (seenK seen) ∧ seen.length + r.length = ps.length ∧ plB (m0 + 1) seen r = plB (m0 + 1) [] ps ∧ ∀ d ∈ r, d ∈ ps) (fun _ _ _ _ => Grd_nil) ?_ ?_ _ _ _ ⟨_, [], rfl, f1, dcAt_of hN, by simp, rfl, fun d h => h⟩
    · rintro d r e t ⟨x2, seen, rfl, fr, hN, hlen, hB, hsub⟩
      have hda := ((hds d (hsub d List.mem_cons_self)).mv0 fr).deep (Nat.le_succ _)
      refine ⟨_, rfl, ?_⟩
      (wp_walk using Ok_ok)
      refine place_ok3Y (N := m0 + 1) hc (by omega) hda fun t2 f2 => ?_
      have fr := fr.trans f2
      have hN := dcAt_of (f2.keep _ _ (by simp) (dcAt_some hN))
      refine kOrT_split (fun h1 => ?_) (fun h1 => ?_)
      · have h1 : placeB (m0 + 1) d = false := by simpa using h1
        (wp_walk using Ok_ok)
        have hq : Q (.bl (plB (m0 + 1) [] ps)) t2 := h t2 fr
        rw [← hB] at hq
        have e0 : plB (m0 + 1) seen (d :: r) = false := plB_place h1
        rw [e0] at hq
        exact hq
      · have h1 : placeB (m0 + 1) d = true := by simpa using h1
        obtain ⟨x, b, k, rfl⟩ := placeB_shape h1
        have h1 : (nameB x && isSs wayWs b && inR 5 (depF (m0 + 1) k)) = true := h1
        have hin : in2 false (.str x) (.ref kn) t2 = some (.bl (decide (x ∈ seen)), t2) := by
          rw [in_dic (neg := false) (d := .str x) (q := .inr x) hN rfl, seen_val]; rfl
        (wp_walk using hin)
        refine kIf_split (fun h2 => ?_) (fun h2 => ?_)
        · (wp_walk using Ok_ok)
          have hq : Q (.bl (plB (m0 + 1) [] ps)) t2 := h t2 fr
          rw [← hB, plB_cons, h2] at hq
          simpa only [Bool.not_true, Bool.and_false, Bool.false_and] using hq
        · (wp_walk using kSub3_dicS (x := x) hN (show (seenK seen).length < 1000000 by unfold seenK; rw [List.length_map]; omega))
          have hx : x ∉ seen := of_decide_eq_false h2
          rw [seen_put hx]
          refine ⟨_, seen ++ [x], rfl, fr.new hkn, dcAt_set hN, by simp at hlen ⊢; omega, ?_, fun d h => hsub d (List.mem_cons_of_mem _ h)⟩
          rw [← hB, plB_cons, h1, h2]
          simp only [Bool.not_false, Bool.and_self, Bool.true_and]
    · rintro e t ⟨x2, seen, rfl, fr, hN, hlen, hB, hsub⟩
      (wp_walk using Ok_ok)
      have : Q (.bl (plB (m0 + 1) [] ps)) t := h t fr
      rw [← hB] at this
      exact this
  | _ => (wp_walk using Ok_ok); exact h _ Fr.refl
theorem is_paper_ok3 {d : D} (hc : c ≤ 100000) (hL : 2 * N + 5 ≤ L) (hd : Any c W s N d) (h : ∀ s', Fr [] s s' → Q (.bl (paperB N d)) s') : Ok (callK G L i_is_paper [d] s) Q X := by
  obtain ⟨K, rfl⟩ : ∃ k, L = k + 1 := ⟨L - 1, by omega⟩
  rw [Ok_call G_is_paper]
  unfold d_is_paper
  cases hd with
  | lst hn h' => (wp_walk using isi_ref h'); exact h _ Fr.refl
  | dic hn h' => (wp_walk using isi_dic h'); exact h _ Fr.refl
  | @tup m0 ds hl hds =>
    by_cases hl3 : ds.length = 4
    · obtain ⟨a, b, p, r, rfl⟩ : ∃ a b p r, ds = [a, b, p, r] := by
        match ds, hl3 with
        | [a, b, p, r], _ => exact ⟨a, b, p, r, rfl⟩
      have hq : ∀ s', Fr [] s s' → Q (.bl (nameD a && sideB b && placesB (m0 + 1) p && (isNon r || inR 5 (depF (m0 + 1) r)))) s' := h
      (wp_walk using Ok_ok)
      refine name_ok3L (by omega) (hds a (by simp)) hc ?_
      refine kOrT_split (fun h1 => ?_) (fun h1 => ?_)
      · have h1 : nameD a = false := by simpa using h1
        (wp_walk using Ok_ok)
        have := hq s Fr.refl
        simpa only [h1, Bool.false_and] using this
      · have h1 : nameD a = true := by simpa using h1
        (wp_walk using Ok_ok)
        refine side_ok (by omega) (hds b (by simp)) ?_
        refine kIf_split (fun h2 => ?_) (fun h2 => ?_)
        · have h2 : sideB b = false := by simpa using h2
          (wp_walk using Ok_ok)
          have := hq s Fr.refl
          simpa only [h2, Bool.and_false, Bool.false_and] using this
        · have h2 : sideB b = true := by simpa using h2
          (wp_walk using Ok_ok)
          refine are_places_ok3 (N := m0 + 1) hc (by omega) ((hds p (by simp)).deep (Nat.le_succ _)) fun s1 f1 => ?_
          refine kIf_split (fun h3 => ?_) (fun h3 => ?_)
          · have h3 : placesB (m0 + 1) p = false := by simpa using h3
            (wp_walk using Ok_ok)
            have := hq s1 f1
            simpa only [h3, Bool.and_false, Bool.false_and] using this
          · have h3 : placesB (m0 + 1) p = true := by simpa using h3
            (wp_walk using Ok_ok)
            refine kOr_split (fun h4 => ?_) (fun h4 => ?_)
            · have := hq s1 f1
              (wp_walk using Ok_ok)
              have h4 : isNon r = true := h4
              rw [h1, h2, h3, h4] at this
              exact this
            · (wp_walk using Ok_ok)
              refine kind_ok3L (N := m0 + 1) hc (by omega) (((hds r (by simp)).deep (Nat.le_succ _)).mv0 f1) fun s2 f2 => ?_
              have := hq s2 (f1.trans f2)
              (wp_walk using Ok_ok)
              have h4 : isNon r = false := h4
              rw [h1, h2, h3, h4] at this
              exact this
    · have e : ((ds.length : Int) == 4) = false := by simpa using (by omega : (ds.length : Int) ≠ 4)
      (wp_walk using e)
      have := h s Fr.refl
      rcases ds with _ | ⟨a, _ | ⟨b, _ | ⟨c2, _ | ⟨d2, _ | _⟩⟩⟩⟩ <;> first | exact this | simp at hl3
  | _ => (wp_walk using Ok_ok); exact h _ Fr.refl
end
/-! RPb: any text read as a paper. -/
theorem nameP_some {l r : List Nat} {x : Str} (h : nameP l = some (x, r)) : nameB x = true ∧ l = cd x ++ 32 :: r := by
  unfold nameP at h
  split at h
  · rename_i hb
    split at h
    · rename_i r' hr
      cases h
      have er := lit_some hr
      refine ⟨hb, ?_⟩
      rw [cd_mkS]
      have := wrd_aft (l := l)
      rw [er] at this
      exact this
    · cases h
  · cases h
theorem fieldsP_all {kp : List Nat → Option (D × List Nat)} {P : D → Prop} : ∀ (f : Nat) (l : List Nat) (fs : List (Str × D)) (r : List Nat), fieldsP kp f l = some (fs, r) → (∀ l' k r', l'.length ≤ l.length → kp l' = some (k, r') → P k ∧ r'.length ≤ l'.length) → fs.length ≤ l.length ∧ 1 ≤ fs.length ∧ (∀ q ∈ fs, nameB q.1 = true ∧ P q.2) ∧ r.length ≤ l.length
  | 0, l, fs, r, h, _ => by cases h
  | f + 1, l, fs, r, h, hk => by
    rw [fieldsP] at h
    cases hn : nameP l with
    | none => rw [hn] at h; cases h
    | some q =>
      obtain ⟨x, r1⟩ := q
      obtain ⟨hb, el⟩ := nameP_some hn
      have ell : l.length = (cd x).length + 1 + r1.length := by rw [el, List.length_append, List.length_cons]; omega
      rw [hn] at h
      dsimp only at h
      cases hk1 : kp r1 with
      | none => rw [hk1] at h; cases h
      | some q =>
        obtain ⟨k, r2⟩ := q
        obtain ⟨hP, hl2⟩ := hk r1 k r2 (by omega) hk1
        rw [hk1] at h
        dsimp only at h
        cases h4 : litP [41] r2 with
        | some r3 =>
          rw [h4] at h
          have e4 := lit_some h4
          have : r2.length = 1 + r3.length := by rw [e4, List.length_append]; rfl
          cases h
          exact ⟨by simp; omega, by simp, fun q hq => by rw [List.mem_singleton] at hq; subst hq; exact ⟨hb, hP⟩, by omega⟩
        | none =>
          rw [h4] at h
          dsimp only at h
          cases h5 : litP [44, 32] r2 with
          | none => rw [h5] at h; cases h
          | some r4 =>
            have e5 := lit_some h5
            have : r2.length = 2 + r4.length := by rw [e5, List.length_append]; rfl
            rw [h5] at h
            dsimp only at h
            cases h6 : fieldsP kp f r4 with
            | none => rw [h6] at h; cases h
            | some q =>
              obtain ⟨fs', r5⟩ := q
              obtain ⟨a1, a2, a3, a4⟩ := fieldsP_all f r4 fs' r5 h6 fun l' k r' hl' => hk l' k r' (by omega)
              rw [h6] at h
              cases h
              refine ⟨by rw [List.length_cons]; omega, by simp, fun q hq => ?_, by omega⟩
              rcases List.mem_cons.mp hq with rfl | hq
              · exact ⟨hb, hP⟩
              · exact a3 q hq
theorem figP_some {lo hi v : Int} {l r : List Nat} (h : figP lo hi l = some (v, r)) : lo ≤ v ∧ v ≤ hi ∧ r.length ≤ l.length := by
  unfold figP at h
  split at h
  · split at h
    · rename_i hb
      cases h
      exact ⟨by omega, by omega, by simp⟩
    · cases h
  · cases h
/-- what is read is some value, of no great depth -/
theorem kindP_any : ∀ (n : Nat) (l : List Nat) (k : D) (r : List Nat), kindP n l = some (k, r) → (∀ {c : Nat} {W : List Nat} {s : S}, l.length + 10 ≤ c → Any c W s (3 * n) k) ∧ r.length ≤ l.length
  | 0, l, k, r, h => by cases h
  | n + 1, l, k, r, h => by
    have wd : ∀ {w : Str} {m c : Nat} {W : List Nat} {s : S}, (cd w).length ≤ 10 → 10 ≤ c → Any c W s m (.str w) := fun h hc => .str (by rw [cd_len]; omega)
    have hal : (aft l).length ≤ l.length := by
      have := congrArg List.length (wrd_aft (l := l))
      rw [List.length_append] at this; omega
    rw [kindP] at h
    split at h
    · cases h
      refine ⟨fun {c W s} hc => .tup (m := 3 * n + 2) (by simp; omega) fun d hd => ?_, hal⟩
      rw [List.mem_singleton] at hd; subst hd
      exact wd (by decide) (by omega)
    · cases h1 : litP [32] (aft l) with
      | none => rw [h1] at h; cases h
      | some r1 =>
        have e1 := lit_some h1
        have hr1 : (aft l).length = 1 + r1.length := by rw [e1, List.length_append]; rfl
        rw [h1] at h
        dsimp only at h
        split at h
        · cases h2 : figP 1 4 r1 with
          | none => rw [h2] at h; cases h
          | some q =>
            obtain ⟨v, r2⟩ := q
            obtain ⟨b1, b2, b3⟩ := figP_some h2
            rw [h2] at h
            cases h
            refine ⟨fun {c W s} hc => .tup (m := 3 * n + 2) (by simp; omega) fun d hd => ?_, by omega⟩
            simp only [List.mem_cons, List.not_mem_nil, or_false] at hd
            rcases hd with rfl | rfl
            · exact wd (by decide) (by omega)
            · exact .int (Nat.lt_of_lt_of_le (show v.natAbs < 2 ^ 4 by omega) (Nat.pow_le_pow_right (by decide) (by omega)))
        · split at h
          · cases h2 : kindP n r1 with
            | none => rw [h2] at h; cases h
            | some q =>
              obtain ⟨k1, r2⟩ := q
              obtain ⟨i1, i2⟩ := kindP_any n r1 k1 r2 h2
              rw [h2] at h
              cases h
              refine ⟨fun {c W s} hc => .tup (m := 3 * n + 2) (by simp; omega) fun d hd => ?_, by omega⟩
              simp only [List.mem_cons, List.not_mem_nil, or_false] at hd
              rcases hd with rfl | rfl
              · exact wd (by decide) (by omega)
              · exact (i1 (by omega)).deep (by omega)
          · split at h
            · rename_i hw
              cases h3 : litP [40] r1 with
              | none => rw [h3] at h; cases h
              | some r2 =>
                have e3 := lit_some h3
                have hr2 : r1.length = 1 + r2.length := by rw [e3, List.length_append]; rfl
                rw [h3] at h
                dsimp only at h
                cases h4 : fieldsP (kindP n) (r2.length + 1) r2 with
                | none => rw [h4] at h; cases h
                | some q =>
                  obtain ⟨fs, r3⟩ := q
                  obtain ⟨a1, a2, a3, a4⟩ := fieldsP_all (P := fun k => ∀ {c : Nat} {W : List Nat} {s : S}, l.length + 10 ≤ c → Any c W s (3 * n) k) _ _ _ _ h4 fun l' k' r' hl' hk' => by
                    obtain ⟨i1, i2⟩ := kindP_any n l' k' r' hk'
                    exact ⟨fun {c W s} hc => i1 (by omega), i2⟩
                  rw [h4] at h
                  cases h
                  refine ⟨fun {c W s} hc => .tup (m := 3 * n + 2) (by simp; omega) fun d hd => ?_, by omega⟩
                  simp only [List.mem_cons, List.not_mem_nil, or_false] at hd
                  rcases hd with rfl | rfl
                  · rcases hw with hw | hw <;> exact wd (by rw [cd_mkS, hw]; decide) (by omega)
                  · refine .tup (m := 3 * n + 1) (by rw [List.length_map]; omega) fun d hd => ?_
                    obtain ⟨f, hf, rfl⟩ := List.mem_map.mp hd
                    obtain ⟨g1, g2⟩ := a3 f hf
                    refine .tup (m := 3 * n) (by simp; omega) fun d hd => ?_
                    simp only [List.mem_cons, List.not_mem_nil, or_false] at hd
                    rcases hd with rfl | rfl
                    · exact wd (by have := (nameB_nm.mp g1).le; omega) (by omega)
                    · exact g2 hc
            · cases h
section
variable {L n : Nat} {s : S} {Q : D → S → Prop} {X : Nat → S → Prop} {T : Str} {pre w post l : List Nat}
theorem read_kind_any (hL : 40 ≤ L) (hl : T.length ≤ 80000) (h1 : ∀ k s', kindP 5 (cd T) = some (k, []) → inR 5 (depF 15 k) = true → Fr [] s s' → Q k s') (h2 : ∀ s', (∀ k, kindP 5 (cd T) = some (k, []) → inR 5 (depF 15 k) = false) → Fr [] s s' → X 8 s') : Ok (callK G L i_read_kind [.str T] s) Q X := by
  obtain ⟨k, rfl⟩ : ∃ k, L = k + 2 * 15 + 2 + 1 := ⟨L - 33, by omega⟩
  rw [Ok_call G_read_kind]
  unfold d_read_kind
  have hcl : (cd T).length = T.length := cd_len.symm
  (wp_walk using Ok_ok)
  refine kind_any 5 (pre := []) (l := cd T) (by omega) (by decide) rfl (by omega) (fun kd w r s1 hk e f1 => ?_) (fun s1 hk f1 => ?_)
  · have hlw : T.length = w.length + r.length := by rw [← hcl, e, List.length_append]
    have hany := (kindP_any 5 _ _ _ hk).1 (c := T.length + 10) (W := []) (s := s1) (by omega)
    (wp_walk using len_str (x := T) (s := s1) (by omega))
    refine kOrT_split (fun h0 => ?_) (fun h0 => ?_)
    · have hne : r ≠ [] := fun er => by
        subst er
        rw [List.length_nil, Nat.add_zero] at hlw
        rw [hlw] at h0
        simp at h0
      (wp_walk using Ok_ok)
      refine h2 s1 (fun k9 h9 => ?_) f1
      rw [hk] at h9
      cases h9
      exact absurd rfl hne
    · have er : r = [] := by
        cases r with
        | nil => rfl
        | cons a b => simp at h0; simp at hlw; omega
      subst er
      (wp_walk using Ok_ok)
      refine is_kind_ok3 (c := T.length + 10) (W := []) (by omega) (n := 15) hany fun s2 f2 => ?_
      cases hi : inR 5 (depF 15 kd) with
      | true =>
        (wp_walk using Ok_ok)
        exact h1 kd s2 hk hi (f1.trans f2)
      | false =>
        (wp_walk using Ok_ok)
        refine h2 s2 (fun k9 h9 => ?_) (f1.trans f2)
        rw [hk] at h9
        cases h9
        exact hi
  · (wp_walk using Ok_ok)
    exact h2 s1 (fun k9 h9 => by rw [hk] at h9; cases h9) f1
end
def placesP : Nat → List Nat → Option (List (Str × Str × D) × List Nat)
  | 0, _ => none
  | f + 1, l => match nameP l with
    | none => none
    | some (x, r) => match litP [32] (aft r) with
      | none => none
      | some r1 => match kindP 5 r1 with
        | none => none
        | some (k, r2) => match litP [41] r2 with
          | some r3 => some ([(x, mkS (wrd r), k)], r3)
          | none => match litP [44, 32] r2 with
            | none => none
            | some r4 => match placesP f r4 with
              | none => none
              | some (ps, r5) => some ((x, mkS (wrd r), k) :: ps, r5)
def placesO (l : List Nat) : Option (List (Str × Str × D) × List Nat) := match litP [41] l with
  | some r => some ([], r)
  | none => placesP (l.length + 1) l
def paperP (l : List Nat) : Option ((Str × Int × List (Str × Str × D) × D) × List Nat) := match litP (cd "door ") l with
  | none => none
  | some l1 => match nameP l1 with
    | none => none
    | some (nm, l2) => match figP 0 1 l2 with
      | none => none
      | some (sd, l3) => match litP (cd " (") l3 with
        | none => none
        | some l4 => match placesO l4 with
          | none => none
          | some (ps, l5) => match litP [32] l5 with
            | none => none
            | some l6 => if l6 = cd "none" then some ((nm, sd, ps, .non), []) else match kindP 5 l6 with
              | none => none
              | some (k, r) => some ((nm, sd, ps, k), r)
theorem cut_from {x : Str} {pre l : List Nat} (h : cd x = pre ++ l) : cutS x (some (pre.length : Int)) none = mkS l := by
  apply cd_inj
  have hl : x.length = pre.length + l.length := by rw [cd_len, h, List.length_append]
  show (((cd x).drop (HT.sIx x.length 0 (some (pre.length : Int)))).take (HT.sIx x.length x.length none - HT.sIx x.length 0 (some (pre.length : Int)))) = _
  simp only [HT.sIx, if_neg (show ¬ (pre.length : Int) < 0 by omega)]
  rw [show min ((pre.length : Int)).toNat x.length = pre.length by omega, h, cd_mkS, List.drop_left, List.take_of_length_le (by omega)]
section
variable {L n : Nat} {s : S} {Q : D → S → Prop} {X : Nat → S → Prop} {T : Str} {pre w post l : List Nat}
theorem lit_take {r2 : List Nat} (h41 : litP [41] r2 = none) : (mkS (r2.take 1) == (")" : Str)) = false := by
  rw [beq_eq_false_iff_ne]
  intro q
  have q := congrArg cd q
  rw [cd_mkS] at q
  have : [41] <+: r2 := take_eq.mp q
  unfold litP at h41
  rw [if_pos this] at h41
  cases h41
theorem lit_take1 {r2 r3 : List Nat} (h41 : litP [41] r2 = some r3) : (mkS (r2.take 1) == (")" : Str)) = true := by
  rw [lit_some h41, show ([41] ++ r3 : List Nat).take 1 = [41] from rfl]
  decide
theorem places_any (hL : 14 ≤ L) (hT : cd T = pre ++ l) (hl : T.length ≤ 90000) (h1 : ∀ ps w r s', placesO l = some (ps, r) → l = w ++ r → Fr [] s s' → Q (.tup [.tup (ps.map plc), .int ((pre.length + w.length : Nat) : Int)]) s') (h2 : ∀ s', placesO l = none → Fr [] s s' → X 8 s') :
    Ok (callK G L i_places_from [.str T, .int (pre.length : Int)] s) Q X := by
  obtain ⟨k, rfl⟩ : ∃ k, L = k + 1 := ⟨L - 1, by omega⟩
  have hlen : T.length = pre.length + l.length := by rw [cd_len, hT, List.length_append]
  have e0 := cutS_any hT 1
  rw [show ((1 : Nat) : Int) = 1 from rfl] at e0
  rw [Ok_call G_places_from]
  unfold d_places_from
  (wp_walk using slc_str (x := T) (s := s) (show T.length ≤ 1000000 by omega), e0)
  unfold placesO at h1 h2
  cases h41 : litP [41] l with
  | some r3 =>
    rw [h41] at h1
    have er := lit_some h41
    (wp_walk using lit_take1 h41)
    have := h1 [] [41] r3 s rfl er Fr.refl
    exact this
  | none =>
    rw [h41] at h1 h2
    dsimp only at h1 h2
    obtain ⟨RR, hRR⟩ : ∃ RR, RR = placesP (l.length + 1) l := ⟨_, rfl⟩
    rw [← hRR] at h1 h2
    (wp_walk using lit_take h41)
    refine Al_lst fun kf s1 hkf hB f1 => ?_
    (wp_walk using Ok_ok)
    refine OkS_loopW (fun f e t => ∃ (p l' : List Nat) (x3 x4 x5 : Option D) (acc : List (Str × Str × D)), e = [some (.str T), some (.int (p.length : Int)), some (.ref kf), x3, x4, x5] ∧ Fr [] s t ∧ l'.length < f ∧ lsAt t kf = some (acc.map plc) ∧ acc.length + f ≤ l.length + 1 ∧ (∃ w', l = w' ++ l' ∧ p = pre ++ w') ∧ RR = (match placesP f l' with | some (fs, r) => some (acc ++ fs, r) | none => none)) ?_ 1000000 _ _ _ (show l.length + 1 < 1000000 by omega) ⟨pre, l, _, _, _, [], rfl, f1, by omega, hB, by simp, ⟨[], rfl, by simp⟩, by
      rw [hRR]
      cases placesP (l.length + 1) l with
      | none => rfl
      | some q => rfl⟩
    rintro f e t ⟨p, l', x3, x4, x5, acc, rfl, fr, hf, hB, hacc, ⟨w', hw', rfl⟩, he⟩
    clear hRR
    obtain ⟨f, rfl⟩ : ∃ g, f = g + 1 := ⟨f - 1, by omega⟩
    (wp_walk using Ok_ok)
    refine ⟨fun _ => ⟨f, by omega, ?_⟩, fun hh => absurd hh (by simp)⟩
    have hT1 : cd T = (pre ++ w') ++ l' := by rw [hT, hw', List.append_assoc]
    rw [placesP] at he
    refine name_any (by omega) hT1 hl (fun x r hx ex hnm => ?_) (fun hx => ?_)
    case refine_2 =>
      rw [hx] at he
      dsimp only at he
      (wp_walk using Ok_ok)
      exact h2 t he fr
    rw [hx] at he
    dsimp only at he
    (wp_walk using Ok_ok)
    have hT2 : cd T = (pre ++ w' ++ cd x ++ [32]) ++ r := by rw [hT1, ex]; simp
    rw [show (pre ++ w' : List Nat).length + (cd x).length + 1 = (pre ++ w' ++ cd x ++ [32] : List Nat).length by simp; omega]
    have hxl : l'.length = (cd x).length + 1 + r.length := by rw [ex, List.length_append, List.length_cons]; omega
    refine word_any (by omega) hT2 (by omega) ?_
    (wp_walk using Ok_ok)
    rw [← List.length_append]
    have hT3 : cd T = (pre ++ w' ++ cd x ++ [32] ++ wrd r) ++ aft r := by rw [List.append_assoc _ (wrd r), ← wrd_aft]; exact hT2
    refine past_any (x := " ") (by omega) hT3 (by omega) (by decide) (fun r1 h3 e3 => ?_) (fun h3 => ?_)
    case refine_2 =>
      have h3 : litP [32] (aft r) = none := h3
      rw [h3] at he
      dsimp only at he
      (wp_walk using Ok_ok)
      exact h2 t he fr
    have h3 : litP [32] (aft r) = some r1 := h3
    rw [h3] at he
    dsimp only at he
    have e3 : aft r = 32 :: r1 := e3
    have hT4 : cd T = (pre ++ w' ++ cd x ++ [32] ++ wrd r ++ [32]) ++ r1 := by rw [hT3, e3]; simp
    rw [show (pre ++ w' ++ cd x ++ [32] ++ wrd r : List Nat).length + (cd " ").length = (pre ++ w' ++ cd x ++ [32] ++ wrd r ++ [32] : List Nat).length by rw [List.length_append (bs := [32])]; rfl]
    have hr1 : r.length = (wrd r).length + 1 + r1.length := by
      have := congrArg List.length (wrd_aft (l := r))
      rw [e3, List.length_append, List.length_cons] at this; omega
    have er : r = wrd r ++ 32 :: r1 := by
      have := wrd_aft (l := r)
      rw [e3] at this; exact this
    have el' : l' = cd x ++ [32] ++ (wrd r ++ 32 :: r1) := by rw [ex, ← er]; simp
    (wp_walk using Ok_ok)
    refine kind_any 5 (by omega) (by decide) hT4 hl (fun kd w2 r2 s2 hk e2 f2 => ?_) (fun s2 hk f2 => ?_)
    case refine_2 =>
      rw [hk] at he
      dsimp only at he
      (wp_walk using Ok_ok)
      exact h2 s2 he (fr.trans f2)
    rw [hk] at he
    dsimp only at he
    (wp_walk using Ok_ok)
    have hB2 := f2.ls (by simp) hB
    (wp_walk using kM_append hB2, append_ref hB2 (d := .tup [.str x, .str (mkS (wrd r)), kd]) (by rw [List.length_map]; omega))
    have fr3 : Fr [] s (s2.set kf (.lst (acc.map plc ++ [.tup [.str x, .str (mkS (wrd r)), kd]]))) := (fr.trans f2).new hkf
    have hB3 : lsAt (s2.set kf (.lst (acc.map plc ++ [.tup [.str x, .str (mkS (wrd r)), kd]]))) kf = some ((acc ++ [(x, mkS (wrd r), kd)]).map plc) := by rw [lsAt_set hB2, List.map_append]; rfl
    generalize s2.set kf (.lst (acc.map plc ++ [.tup [.str x, .str (mkS (wrd r)), kd]])) = s3 at fr3 hB3
    have hT5 : cd T = (pre ++ w' ++ cd x ++ [32] ++ wrd r ++ [32] ++ w2) ++ r2 := by rw [hT4, e2]; simp
    have hrl : r1.length = w2.length + r2.length := by rw [e2, List.length_append]
    rw [show (pre ++ w' ++ cd x ++ [32] ++ wrd r ++ [32] : List Nat).length + w2.length = (pre ++ w' ++ cd x ++ [32] ++ wrd r ++ [32] ++ w2 : List Nat).length by rw [List.length_append (bs := w2)]]
    have e := cutS_any hT5 1
    rw [show ((1 : Nat) : Int) = 1 from rfl] at e
    (wp_walk using slc_str (x := T) (s := s3) (show T.length ≤ 1000000 by omega), e)
    cases h41 : litP [41] r2 with
    | some r3 =>
      have er2 := lit_some h41
      rw [h41] at he
      dsimp only at he
      (wp_walk using lit_take1 h41, b_tuple_ref hB3)
      have := h1 (acc ++ [(x, mkS (wrd r), kd)]) (w' ++ cd x ++ [32] ++ wrd r ++ [32] ++ w2 ++ [41]) r3 s3 he (by rw [hw', el', e2, er2]; simp) fr3
      rw [show pre.length + (w' ++ cd x ++ [32] ++ wrd r ++ [32] ++ w2 ++ [41] : List Nat).length = (pre ++ w' ++ cd x ++ [32] ++ wrd r ++ [32] ++ w2 : List Nat).length + 1 by simp; omega] at this
      exact this
    | none =>
      rw [h41] at he
      dsimp only at he
      (wp_walk using lit_take h41)
      refine past_any (x := ", ") (by omega) hT5 (by omega) (by decide) (fun r4 h4 e4 => ?_) (fun h4 => ?_)
      · have h4 : litP [44, 32] r2 = some r4 := h4
        rw [h4] at he
        dsimp only at he
        have hr4 : r2.length = 2 + r4.length := by rw [e4, List.length_append]; rfl
        (wp_walk using Ok_ok)
        refine ⟨(pre ++ w' ++ cd x ++ [32] ++ wrd r ++ [32] ++ w2 ++ cd ", " : List Nat), r4, some (.str x), some (.str (mkS (wrd r))), some kd, acc ++ [(x, mkS (wrd r), kd)], ?_, fr3, by omega, hB3, by rw [List.length_append, List.length_singleton]; omega, ⟨w' ++ cd x ++ [32] ++ wrd r ++ [32] ++ w2 ++ cd ", ", by rw [hw', el', e2, e4]; simp, by simp⟩, ?_⟩
        · rw [List.length_append (bs := cd ", ")]
        · rw [he]
          cases placesP f r4 with
          | none => rfl
          | some q => obtain ⟨a, b⟩ := q; simp
      · have h4 : litP [44, 32] r2 = none := h4
        rw [h4] at he
        dsimp only at he
        (wp_walk using Ok_ok)
        exact h2 s3 he fr3
theorem placesP_all : ∀ (f : Nat) (l : List Nat) (ps : List (Str × Str × D)) (r : List Nat), placesP f l = some (ps, r) → ps.length ≤ l.length ∧ (∀ q ∈ ps, nameB q.1 = true ∧ q.2.1.length ≤ l.length ∧ ∀ {c : Nat} {W : List Nat} {s : S}, l.length + 10 ≤ c → Any c W s 15 q.2.2) ∧ r.length ≤ l.length
  | 0, l, ps, r, h => by cases h
  | f + 1, l, ps, r, h => by
    rw [placesP] at h
    cases hn : nameP l with
    | none => rw [hn] at h; cases h
    | some q =>
      obtain ⟨x, r0⟩ := q
      obtain ⟨hb, el⟩ := nameP_some hn
      have ell : l.length = (cd x).length + 1 + r0.length := by rw [el, List.length_append, List.length_cons]; omega
      have hwl := congrArg List.length (wrd_aft (l := r0))
      rw [List.length_append] at hwl
      rw [hn] at h
      dsimp only at h
      cases h1 : litP [32] (aft r0) with
      | none => rw [h1] at h; cases h
      | some r1 =>
        have e1 := lit_some h1
        have hr1 : (aft r0).length = 1 + r1.length := by rw [e1, List.length_append]; rfl
        rw [h1] at h
        dsimp only at h
        cases hk1 : kindP 5 r1 with
        | none => rw [hk1] at h; cases h
        | some q =>
          obtain ⟨k, r2⟩ := q
          obtain ⟨hP, hl2⟩ := kindP_any 5 r1 k r2 hk1
          rw [hk1] at h
          dsimp only at h
          have one : nameB x = true ∧ (mkS (wrd r0)).length ≤ l.length ∧ ∀ {c : Nat} {W : List Nat} {s : S}, l.length + 10 ≤ c → Any c W s 15 k := ⟨hb, by rw [mkS_len]; omega, fun {c W s} hc => hP (by omega)⟩
          cases h4 : litP [41] r2 with
          | some r3 =>
            rw [h4] at h
            have e4 := lit_some h4
            have : r2.length = 1 + r3.length := by rw [e4, List.length_append]; rfl
            cases h
            exact ⟨by simp; omega, fun q hq => by rw [List.mem_singleton] at hq; subst hq; exact one, by omega⟩
          | none =>
            rw [h4] at h
            dsimp only at h
            cases h5 : litP [44, 32] r2 with
            | none => rw [h5] at h; cases h
            | some r4 =>
              have e5 := lit_some h5
              have : r2.length = 2 + r4.length := by rw [e5, List.length_append]; rfl
              rw [h5] at h
              dsimp only at h
              cases h6 : placesP f r4 with
              | none => rw [h6] at h; cases h
              | some q =>
                obtain ⟨ps', r5⟩ := q
                obtain ⟨a1, a3, a4⟩ := placesP_all f r4 ps' r5 h6
                rw [h6] at h
                cases h
                refine ⟨by rw [List.length_cons]; omega, fun q hq => ?_, by omega⟩
                rcases List.mem_cons.mp hq with rfl | hq
                · exact one
                · obtain ⟨b1, b2, b3⟩ := a3 q hq
                  exact ⟨b1, by omega, fun {c W s} hc => b3 (by omega)⟩
theorem placesO_all {ps : List (Str × Str × D)} {r : List Nat} (h : placesO l = some (ps, r)) : ps.length ≤ l.length ∧ (∀ q ∈ ps, nameB q.1 = true ∧ q.2.1.length ≤ l.length ∧ ∀ {c : Nat} {W : List Nat} {s : S}, l.length + 10 ≤ c → Any c W s 15 q.2.2) ∧ r.length ≤ l.length := by
  unfold placesO at h
  cases h4 : litP [41] l with
  | some r3 =>
    rw [h4] at h
    have e4 := lit_some h4
    have : l.length = 1 + r3.length := by rw [e4, List.length_append]; rfl
    cases h
    exact ⟨Nat.zero_le _, fun q hq => (nomatch hq), by omega⟩
  | none =>
    rw [h4] at h
    exact placesP_all _ _ _ _ h
theorem pap_any {c : Nat} {nm : Str} {sd : Int} {ps : List (Str × Str × D)} {rr : D} {W : List Nat} (hc : l.length + 10 ≤ c) (hn : nameB nm = true) (hs : 0 ≤ sd ∧ sd ≤ 1) (hp : ps.length ≤ l.length) (ha : ∀ q ∈ ps, nameB q.1 = true ∧ q.2.1.length ≤ l.length ∧ Any c W s 15 q.2.2) (hr : Any c W s 15 rr) : Any c W s 18 (papD nm sd ps rr) := by
  have nl : ∀ {x : Str} {m : Nat}, nameB x = true → Any c W s m (.str x) := fun h => .str (by rw [cd_len]; have := (nameB_nm.mp h).le; omega)
  refine .tup (m := 17) (by simp; omega) fun d hd => ?_
  simp only [List.mem_cons, List.not_mem_nil, or_false] at hd
  rcases hd with rfl | rfl | rfl | rfl
  · exact nl hn
  · exact .int (Nat.lt_of_lt_of_le (show sd.natAbs < 2 ^ 4 by omega) (Nat.pow_le_pow_right (by decide) (by omega)))
  · refine .tup (m := 16) (by rw [List.length_map]; omega) fun d hd => ?_
    obtain ⟨q, hq, rfl⟩ := List.mem_map.mp hd
    obtain ⟨a1, a2, a3⟩ := ha q hq
    refine .tup (m := 15) (by simp; omega) fun d hd => ?_
    simp only [List.mem_cons, List.not_mem_nil, or_false] at hd
    rcases hd with rfl | rfl | rfl
    · exact nl a1
    · exact .str (by omega)
    · exact a3
  · exact hr.deep (by omega)
theorem read_paper_any (hL : 46 ≤ L) (hl : T.length ≤ 80000) (h1 : ∀ nm sd ps rr s', paperP (cd T) = some ((nm, sd, ps, rr), []) → paperB 18 (papD nm sd ps rr) = true → Fr [] s s' → Q (papD nm sd ps rr) s') (h2 : ∀ s', (∀ nm sd ps rr, paperP (cd T) = some ((nm, sd, ps, rr), []) → paperB 18 (papD nm sd ps rr) = false) → Fr [] s s' → X 8 s') : Ok (callK G L i_read_paper [.str T] s) Q X := by
  obtain ⟨k, rfl⟩ : ∃ k, L = k + 1 := ⟨L - 1, by omega⟩
  have hcl : (cd T).length = T.length := cd_len.symm
  obtain ⟨RR, hRR⟩ : ∃ RR, RR = paperP (cd T) := ⟨_, rfl⟩
  rw [← hRR] at h1 h2
  unfold paperP at hRR
  have bad : ∀ s', RR = none → Fr [] s s' → X 8 s' := fun s' e f => h2 s' (fun _ _ _ _ q => by rw [e] at q; cases q) f
  rw [Ok_call G_read_paper]
  unfold d_read_paper
  (wp_walk using Ok_ok)
  refine past_any (x := "door ") (pre := []) (l := cd T) (by omega) rfl (by omega) (by decide) (fun l1 g1 e1 => ?_) (fun g1 => ?_)
  case refine_2 =>
    rw [g1] at hRR
    (wp_walk using Ok_ok)
    exact bad s hRR Fr.refl
  rw [g1] at hRR
  dsimp only at hRR
  have T1 : cd T = cd "door " ++ l1 := e1
  have len1 : T.length = 5 + l1.length := by rw [← hcl, T1, List.length_append]; rfl
  (wp_walk using Ok_ok)
  rw [Nat.zero_add]
  refine name_any (by omega) T1 (by omega) (fun nm l2 g2 e2 hnm => ?_) (fun g2 => ?_)
  case refine_2 =>
    rw [g2] at hRR
    (wp_walk using Ok_ok)
    exact bad s hRR Fr.refl
  rw [g2] at hRR
  dsimp only at hRR
  have len2 : l1.length = (cd nm).length + 1 + l2.length := by rw [e2, List.length_append, List.length_cons]; omega
  obtain ⟨p2, hp2⟩ : ∃ p2 : List Nat, p2 = cd "door " ++ cd nm ++ [32] := ⟨_, rfl⟩
  have T2 : cd T = p2 ++ l2 := by rw [T1, e2, hp2]; simp
  have el2 : (cd "door ").length + (cd nm).length + 1 = p2.length := by rw [hp2]; simp; rfl
  (wp_walk using Ok_ok)
  rw [el2]
  refine fig_any (by omega) T2 (by omega) (by decide) (by decide) (by decide) (by decide) (fun sd l3 g3 e3 s0 s1 => ?_) (fun g3 => ?_)
  case refine_2 =>
    rw [g3] at hRR
    (wp_walk using Ok_ok)
    exact bad s hRR Fr.refl
  rw [g3] at hRR
  dsimp only at hRR
  have len3 : l2.length = 1 + l3.length := by rw [e3, List.length_cons]; omega
  obtain ⟨p3, hp3⟩ : ∃ p3 : List Nat, p3 = p2 ++ [48 + sd.toNat] := ⟨_, rfl⟩
  have T3 : cd T = p3 ++ l3 := by rw [T2, e3, hp3]; simp
  have el3 : p2.length + 1 = p3.length := by rw [hp3]; simp
  (wp_walk using Ok_ok)
  rw [el3]
  refine past_any (x := " (") (by omega) T3 (by omega) (by decide) (fun l4 g4 e4 => ?_) (fun g4 => ?_)
  case refine_2 =>
    rw [g4] at hRR
    (wp_walk using Ok_ok)
    exact bad s hRR Fr.refl
  rw [g4] at hRR
  dsimp only at hRR
  have len4 : l3.length = 2 + l4.length := by rw [e4, List.length_append]; rfl
  obtain ⟨p4, hp4⟩ : ∃ p4 : List Nat, p4 = p3 ++ cd " (" := ⟨_, rfl⟩
  have T4 : cd T = p4 ++ l4 := by rw [T3, e4, hp4]; simp
  have el4 : p3.length + (cd " (").length = p4.length := by rw [hp4, List.length_append]
  rw [el4]
  (wp_walk using Ok_ok)
  refine places_any (by omega) T4 (by omega) (fun ps w5 l5 s5 g5 e5 f5 => ?_) (fun s5 g5 f5 => ?_)
  case refine_2 =>
    rw [g5] at hRR
    (wp_walk using Ok_ok)
    exact bad s5 hRR f5
  rw [g5] at hRR
  dsimp only at hRR
  obtain ⟨q1, q2, q3⟩ := placesO_all g5
  have len5 : l4.length = w5.length + l5.length := by rw [e5, List.length_append]
  obtain ⟨p5, hp5⟩ : ∃ p5 : List Nat, p5 = p4 ++ w5 := ⟨_, rfl⟩
  have T5 : cd T = p5 ++ l5 := by rw [T4, e5, hp5]; simp
  have el5 : p4.length + w5.length = p5.length := by rw [hp5, List.length_append]
  (wp_walk using Ok_ok)
  rw [el5]
  refine past_any (x := " ") (by omega) T5 (by omega) (by decide) (fun l6 g6 e6 => ?_) (fun g6 => ?_)
  case refine_2 =>
    have g6 : litP [32] l5 = none := g6
    rw [g6] at hRR
    (wp_walk using Ok_ok)
    exact bad s5 hRR f5
  have g6 : litP [32] l5 = some l6 := g6
  rw [g6] at hRR
  dsimp only at hRR
  have len6 : l5.length = 1 + l6.length := by rw [e6, List.length_append]; rfl
  obtain ⟨p6, hp6⟩ : ∃ p6 : List Nat, p6 = p5 ++ [32] := ⟨_, rfl⟩
  have T6 : cd T = p6 ++ l6 := by rw [T5, e6, hp6]; simp; rfl
  have el6 : p5.length + (cd " ").length = p6.length := by rw [hp6, List.length_append]; rfl
  have lenT : T.length = p6.length + l6.length := by rw [← hcl, T6, List.length_append]
  rw [el6]
  have last : ∀ (rr : D) (r : List Nat) (u : S), RR = some ((nm, sd, ps, rr), r) → Fr [] s u → (∀ {W : List Nat}, Any (T.length + 10) [] u 15 rr) → r.length ≤ T.length → OkS (denB (callK G k) (.cons (.set 6 (.tup (.cons (.var 1) (.cons (.var 3) (.cons (.var 4) (.cons (.var 5) .nil)))))) (.cons (.ife (.or (.cmp .ne (.var 2) (.blt .len (.cons (.var 0) .nil))) (.one (.not (.val (.call 97 (.cons (.var 6) .nil)))))) (.cons (.raise 8) .nil) .nil) (.cons (.ret (.var 6)) .nil))) [some (.str T), some (.str nm), some (.int ((T.length - r.length : Nat) : Int)), some (.int sd), some (.tup (ps.map plc)), some rr, none] u) (kN Q) (xR Q X) := fun rr r u hR fu hany hrl => by
    (wp_walk using len_str (x := T) (s := u) (by omega))
    refine kOrT_split (fun h0 => ?_) (fun h0 => ?_)
    · have hne : r ≠ [] := fun er => by
        subst er
        rw [List.length_nil, Nat.sub_zero] at h0
        simp at h0
      (wp_walk using Ok_ok)
      refine h2 u (fun a b c d q => ?_) fu
      rw [hR] at q
      cases q
      exact absurd rfl hne
    · have er : r = [] := by
        cases r with
        | nil => rfl
        | cons a b =>
          exfalso
          simp at h0 hrl
          omega
      subst er
      (wp_walk using Ok_ok)
      refine is_paper_ok3 (N := 18) (c := T.length + 10) (W := []) (by omega) (by omega) (pap_any (l := cd T) (by omega) hnm ⟨s0, s1⟩ (by omega) (fun q hq => ?_) (hany (W := []))) fun u2 fu2 => ?_
      · obtain ⟨b1, b2, b3⟩ := q2 q hq
        exact ⟨b1, by omega, b3 (by omega)⟩
      · have ed : D.tup [.str nm, .int sd, .tup (ps.map plc), rr] = papD nm sd ps rr := rfl
        rw [ed]
        cases hi : paperB 18 (papD nm sd ps rr) with
        | true =>
          (wp_walk using Ok_ok)
          exact h1 nm sd ps rr u2 hR hi (fu.trans fu2)
        | false =>
          (wp_walk using Ok_ok)
          refine h2 u2 (fun a b c d q => ?_) (fu.trans fu2)
          rw [hR] at q
          cases q
          exact hi
  (wp_walk using Ok_ok)
  (wp_walk using slc_str (x := T) (s := s5) (show T.length ≤ 1000000 by omega), cut_from T6)
  by_cases hno : l6 = cd "none"
  · rw [if_pos hno] at hRR
    have e9 : (mkS l6 == ("none" : Str)) = true := by rw [hno, mkS_cd]; simp
    (wp_walk using e9, len_str (x := T) (s := s5) (show T.length ≤ 1000000 by omega))
    have f0 := last .non [] s5 hRR f5 (fun {W} => .non) (Nat.zero_le _)
    rw [List.length_nil, Nat.sub_zero] at f0
    simp only [S_asl, xUs_rt, S_augs, kAs1_app, E_dsp, kDs1_app, trnX_rt, S_tryn, E_tin, T_tin, kTi2_app, E_tget, kTg1_app, kTg2_app, S_tset, kTs1_app, kTs2_app, T_chn, kCh1_app, kCh2_app, kCh3_true, kCh3_false, E_ccall, b_min3, kw_num_text, kw_num_row, kw_num_rec, kw_num_pick, kw_text_num, kw_text_row, kw_text_rec, kw_text_pick, kw_row_num, kw_row_text, kw_row_rec, kw_row_pick, kw_rec_num, kw_rec_text, kw_rec_row, kw_rec_pick, kw_pick_num, kw_pick_text, kw_pick_row, kw_pick_rec, S_tryx, kHx_app, kUn_app, xUn_rt, tryX_rt, S_try2, try2X_rt, S_seta, kSa1_app, S_auga, E_isx, isx_non, E_attr, E_mcall, kMc2_app, E_new, kNew_app, kNi_app, kNw_non, trX_rt, S_raise, S_tryc, S_aug, kAugE_app, kAug_add, kAug_sub, Ok_ok, Ok_ex, OkS_nx, OkS_rt, kX_app, kN_app, xR_rt, xR_ex, kB_app, B_nil, B_cons, kSet_app, S_set, S_setc, S_asg, kAsg_2, kAsg_3, kAsg_4, S_sub, kSub1_app, kSub2_app, kSub3_app, kExp_app, S_exp, S_ret, S_retn, S_pas, S_brk, S_cnt, kIf_true, kIf_false, S_ife, S_for, kFor_app, S_whl, kTb_app, kC1_app, kC2_app, T_cmp, T_val, kNotT_app, T_not, kAndT_true, kAndT_false, T_and, kOrT_true, kOrT_false, T_or, T_one, E_var, E_non, E_bl, E_int, E_str, E_conI, E_conS, k1_app, E_neg, kO1_app, kO2_app, E_bin, E_cmp, E_idx, kAnd_true, kAnd_false, kOr_true, kOr_false, E_and, E_or, E_one, kNot_app, E_not, kIte_true, kIte_false, E_ite, kA1_app, kA2_app, A_nil, A_cons, kTup_app, kLst_app, E_tup, E_lst, E_dk, E_dt, kO_app, O_none, O_some, kS1_app, kS2_app, kS3_app, E_slc, E_rev, E_nset, E_lrg1, E_lrg2, E_lzip, kLz_app, kCall_app, E_call, kBlt_app, E_blt, E_isi, kM_upper, kM_split, kM_sidx, kM_join, kM2_app, E_mth, kW_app, kWs_app, W_seq, W_rng1, W_rng2, W_rng3, W_enum, W_zip, it_tup, it_rol, it_str, kLc_app, kAcc_app, E_lc, C_none, C_some, zs_tup, zs_rol, R.of_some, R.of_none, idx_tup, idx_rol, atI_0, atI_1, atI_2, atI_3, atI_4, atI_5, atI_6, atI_7, Option.map_some, bop_add, bop_sub, bop_mul, bop_fdiv, bop_mod, bop_pow, add_int, sub_int, neg_int, lt_int, le_int, gt_int, ge_int, eq_any, ne_any, is_any, isn_any, in_any, nin_any, bOf_some, is_non, isn_non, is_bl, eq_int, eq_str, eq_bl, eq_nn, eq_tupstr, eq_strtup, len_tup, len_rol, ok_list_tup, b_tuple_tup, b_max2, b_min2, b_int_bl, b_int_int, isi_non, isi_bl, isi_int, isi_str, isi_tup, isi_rol, rcv_str, isT, isNon, slc_tup, rev_tup, Mth.ty, wipeE, len_ns, len_cs, G_nm, Gs_nil, Gs_cons, Option.bind_some, List.set_cons_zero, List.set_cons_succ, List.map_cons, List.map_nil, List.length_cons, List.length_nil, List.replicate_succ, List.replicate_zero, List.cons_append, List.nil_append, List.append_nil, ix10, ix20, ix21, ix30, ix31, ix32, List.set_set, decide_true, decide_false, Bool.not_true, Bool.not_false, Nat.reduceSub, Nat.reduceAdd, Nat.reduceLeDiff, Int.cast_ofNat_Int, Int.natCast_zero, Int.natCast_one, Int.reduceBEq, Int.reduceLT, Int.reduceLE, Int.reduceAdd, Int.reduceSub, Int.reduceMul, Int.reduceNeg, Int.reduceDiv, Int.reduceMod, Int.zero_add, beq_self_eq_true, true_and, and_true, and_self, gV_0, gV_1, gV_2, gV_3, gV_4, gV_5, gV_6, gV_7, gV_8, gV_9, gV_10, gV_11, gV_12, gV_13, gV_14, gV_15, gV_16, gV_17, gV_18, gV_19, gV_20, gV_21, gV_22, gV_23, len_str (x := T) (s := s5) (show T.length ≤ 1000000 by omega)] at f0
    exact f0
  · rw [if_neg hno] at hRR
    have e9 : (mkS l6 == ("none" : Str)) = false := by
      rw [beq_eq_false_iff_ne]
      intro q
      have q := congrArg cd q
      rw [cd_mkS] at q
      exact hno q
    (wp_walk using e9)
    refine kind_any 5 (by omega) (by decide) T6 (by omega) (fun kd w7 r s7 g7 e7 f7 => ?_) (fun s7 g7 f7 => ?_)
    · rw [g7] at hRR
      dsimp only at hRR
      (wp_walk using Ok_ok)
      have len7 : l6.length = w7.length + r.length := by rw [e7, List.length_append]
      have hk9 := (kindP_any 5 _ _ _ g7).1 (c := T.length + 10) (W := []) (s := s7) (by omega)
      have f0 := last kd r s7 hRR (f5.trans f7) (fun {W} => hk9) (by omega)
      rw [show T.length - r.length = p6.length + w7.length by omega] at f0
      simp only [S_asl, xUs_rt, S_augs, kAs1_app, E_dsp, kDs1_app, trnX_rt, S_tryn, E_tin, T_tin, kTi2_app, E_tget, kTg1_app, kTg2_app, S_tset, kTs1_app, kTs2_app, T_chn, kCh1_app, kCh2_app, kCh3_true, kCh3_false, E_ccall, b_min3, kw_num_text, kw_num_row, kw_num_rec, kw_num_pick, kw_text_num, kw_text_row, kw_text_rec, kw_text_pick, kw_row_num, kw_row_text, kw_row_rec, kw_row_pick, kw_rec_num, kw_rec_text, kw_rec_row, kw_rec_pick, kw_pick_num, kw_pick_text, kw_pick_row, kw_pick_rec, S_tryx, kHx_app, kUn_app, xUn_rt, tryX_rt, S_try2, try2X_rt, S_seta, kSa1_app, S_auga, E_isx, isx_non, E_attr, E_mcall, kMc2_app, E_new, kNew_app, kNi_app, kNw_non, trX_rt, S_raise, S_tryc, S_aug, kAugE_app, kAug_add, kAug_sub, Ok_ok, Ok_ex, OkS_nx, OkS_rt, kX_app, kN_app, xR_rt, xR_ex, kB_app, B_nil, B_cons, kSet_app, S_set, S_setc, S_asg, kAsg_2, kAsg_3, kAsg_4, S_sub, kSub1_app, kSub2_app, kSub3_app, kExp_app, S_exp, S_ret, S_retn, S_pas, S_brk, S_cnt, kIf_true, kIf_false, S_ife, S_for, kFor_app, S_whl, kTb_app, kC1_app, kC2_app, T_cmp, T_val, kNotT_app, T_not, kAndT_true, kAndT_false, T_and, kOrT_true, kOrT_false, T_or, T_one, E_var, E_non, E_bl, E_int, E_str, E_conI, E_conS, k1_app, E_neg, kO1_app, kO2_app, E_bin, E_cmp, E_idx, kAnd_true, kAnd_false, kOr_true, kOr_false, E_and, E_or, E_one, kNot_app, E_not, kIte_true, kIte_false, E_ite, kA1_app, kA2_app, A_nil, A_cons, kTup_app, kLst_app, E_tup, E_lst, E_dk, E_dt, kO_app, O_none, O_some, kS1_app, kS2_app, kS3_app, E_slc, E_rev, E_nset, E_lrg1, E_lrg2, E_lzip, kLz_app, kCall_app, E_call, kBlt_app, E_blt, E_isi, kM_upper, kM_split, kM_sidx, kM_join, kM2_app, E_mth, kW_app, kWs_app, W_seq, W_rng1, W_rng2, W_rng3, W_enum, W_zip, it_tup, it_rol, it_str, kLc_app, kAcc_app, E_lc, C_none, C_some, zs_tup, zs_rol, R.of_some, R.of_none, idx_tup, idx_rol, atI_0, atI_1, atI_2, atI_3, atI_4, atI_5, atI_6, atI_7, Option.map_some, bop_add, bop_sub, bop_mul, bop_fdiv, bop_mod, bop_pow, add_int, sub_int, neg_int, lt_int, le_int, gt_int, ge_int, eq_any, ne_any, is_any, isn_any, in_any, nin_any, bOf_some, is_non, isn_non, is_bl, eq_int, eq_str, eq_bl, eq_nn, eq_tupstr, eq_strtup, len_tup, len_rol, ok_list_tup, b_tuple_tup, b_max2, b_min2, b_int_bl, b_int_int, isi_non, isi_bl, isi_int, isi_str, isi_tup, isi_rol, rcv_str, isT, isNon, slc_tup, rev_tup, Mth.ty, wipeE, len_ns, len_cs, G_nm, Gs_nil, Gs_cons, Option.bind_some, List.set_cons_zero, List.set_cons_succ, List.map_cons, List.map_nil, List.length_cons, List.length_nil, List.replicate_succ, List.replicate_zero, List.cons_append, List.nil_append, List.append_nil, ix10, ix20, ix21, ix30, ix31, ix32, List.set_set, decide_true, decide_false, Bool.not_true, Bool.not_false, Nat.reduceSub, Nat.reduceAdd, Nat.reduceLeDiff, Int.cast_ofNat_Int, Int.natCast_zero, Int.natCast_one, Int.reduceBEq, Int.reduceLT, Int.reduceLE, Int.reduceAdd, Int.reduceSub, Int.reduceMul, Int.reduceNeg, Int.reduceDiv, Int.reduceMod, Int.zero_add, beq_self_eq_true, true_and, and_true, and_self, gV_0, gV_1, gV_2, gV_3, gV_4, gV_5, gV_6, gV_7, gV_8, gV_9, gV_10, gV_11, gV_12, gV_13, gV_14, gV_15, gV_16, gV_17, gV_18, gV_19, gV_20, gV_21, gV_22, gV_23] at f0
      exact f0
    · rw [g7] at hRR
      dsimp only at hRR
      (wp_walk using Ok_ok)
      exact bad s7 hRR (f5.trans f7)
end
/-! RPc: texts of levels read: plain. -/
section
variable {n m d f : Nat} {c c0 r t tail post : List Nat} {k : D} {x w : Str} {g : Bool}
theorem wrd_app : ∀ {w r : List Nat}, (∀ a ∈ w, small a) → Ends1 r → wrd (w ++ r) = w ∧ aft (w ++ r) = r
  | [], [], _, _ => ⟨rfl, rfl⟩
  | [], a :: r, _, he => by
    have h : small1 a = false := by
      cases hq : small1 a with
      | false => rfl
      | true => exact absurd (small1_iff.mp hq) (he a r rfl)
    unfold wrd aft
    rw [List.nil_append, List.takeWhile_cons, List.dropWhile_cons, h]
    exact ⟨rfl, rfl⟩
  | a :: w, r, hw, he => by
    have h : small1 a = true := small1_iff.mpr (hw a (by simp))
    obtain ⟨h1, h2⟩ := wrd_app (w := w) (r := r) (fun b hb => hw b (by simp [hb])) he
    unfold wrd aft at *
    rw [List.cons_append, List.takeWhile_cons, List.dropWhile_cons, h]
    exact ⟨by rw [if_pos rfl, h1], by rw [if_pos rfl, h2]⟩
theorem ends_c {a : Nat} (h : ¬ small a) : Ends1 (a :: r) := fun c r e => by cases e; exact h
theorem ends32 : Ends1 (32 :: r) := ends_c (by unfold small; omega)
theorem ends41 : Ends1 (41 :: r) := ends_c (by unfold small; omega)
theorem ends44 : Ends1 (44 :: r) := ends_c (by unfold small; omega)
theorem ends0 : Ends1 [] := fun c r e => by cases e
theorem nameP_of (h : Nm x) : nameP (cd x ++ 32 :: r) = some (x, r) := by
  obtain ⟨h1, h2⟩ := wrd_app (w := cd x) (r := 32 :: r) h.all ends32
  unfold nameP
  rw [h1, h2, mkS_cd, nameB_nm.mpr h, if_pos rfl]
  rw [show litP [32] (32 :: r) = some r from lit_app (x := [32])]
theorem lit_ne {a b : Nat} (h : a ≠ b) : litP (a :: c) (b :: r) = none := by
  unfold litP
  rw [if_neg]
  rintro ⟨t, e⟩
  injection e with e _
  exact h e
theorem lit_nil {a : Nat} : litP (a :: c) [] = none := by
  unfold litP
  rw [if_neg]
  rintro ⟨t, e⟩
  cases e
/-- how a kind's text begins -/
theorem kindP_text (he : Ends1 r) : kindP (n + 1) (cd "text" ++ r) = some (.tup [.str "text"], r) := by
  obtain ⟨h1, h2⟩ := wrd_app (w := cd "text") (r := r) (by decide) he
  rw [kindP, h1, h2, if_pos rfl]
theorem kindP_num {v : Int} (h1 : 1 ≤ v) (h4 : v ≤ 4) : kindP (n + 1) (cd "num " ++ [48 + v.toNat] ++ r) = some (.tup [.str "num", .int v], r) := by
  have e : cd "num " ++ [48 + v.toNat] ++ r = cd "num" ++ 32 :: ((48 + v.toNat) :: r) := by
    rw [show cd "num " = cd "num" ++ [32] from rfl]; simp
  obtain ⟨a1, a2⟩ := wrd_app (w := cd "num") (r := 32 :: ((48 + v.toNat) :: r)) (by decide) ends32
  rw [e, kindP, a1, a2, if_neg (by decide), show litP [32] (32 :: ((48 + v.toNat) :: r)) = some ((48 + v.toNat) :: r) from lit_app (x := [32])]
  dsimp only
  rw [if_pos rfl]
  unfold figP
  dsimp only
  rw [if_pos (by omega)]
  dsimp only
  rw [show (((48 + v.toNat : Nat) : Int) - 48) = v by omega]
theorem kindP_row : kindP (n + 1) (cd "row " ++ r) = (match kindP n r with | some (k, r2) => some (.tup [.str "row", k], r2) | none => none) := by
  have e : cd "row " ++ r = cd "row" ++ 32 :: r := by rw [show cd "row " = cd "row" ++ [32] from rfl]; simp
  obtain ⟨a1, a2⟩ := wrd_app (w := cd "row") (r := 32 :: r) (by decide) ends32
  rw [e, kindP, a1, a2, if_neg (by decide), show litP [32] (32 :: r) = some r from lit_app (x := [32])]
  dsimp only
  rw [if_neg (by decide), if_pos rfl]
  all_goals cases kindP n r <;> rfl
theorem kindP_fs (hw : w = "rec" ∨ w = "pick") : kindP (n + 1) (cd w ++ cd " (" ++ r) = (match fieldsP (kindP n) (r.length + 1) r with | some (fs, r3) => some (.tup [.str w, .tup (fs.map fld)], r3) | none => none) := by
  have e : cd w ++ cd " (" ++ r = cd w ++ 32 :: (40 :: r) := by rw [show cd " (" = [32, 40] from rfl]; simp
  have hs : ∀ a ∈ cd w, small a := by rcases hw with rfl | rfl <;> decide
  obtain ⟨a1, a2⟩ := wrd_app (w := cd w) (r := 32 :: (40 :: r)) hs ends32
  rw [e, kindP, a1, a2, if_neg (by rcases hw with rfl | rfl <;> decide), show litP [32] (32 :: (40 :: r)) = some (40 :: r) from lit_app (x := [32])]
  dsimp only
  rw [if_neg (by rcases hw with rfl | rfl <;> decide), if_neg (by rcases hw with rfl | rfl <;> decide), if_pos (by rcases hw with rfl | rfl; exact .inl rfl; exact .inr rfl), show litP [40] (40 :: r) = some r from lit_app (x := [40]), mkS_cd]
  all_goals dsimp only
  all_goals cases fieldsP (kindP n) (r.length + 1) r <;> rfl
/-- another word -/
theorem kindP_bad (hs : ∀ a ∈ cd w, small a) (h0 : w ≠ "text") (h1 : w ≠ "num") (h2 : w ≠ "row") (h3 : w ≠ "rec") (h4 : w ≠ "pick") (he : Ends1 r) : kindP n (cd w ++ r) = none := by
  have inj : ∀ {a b : Str}, cd a = cd b → a = b := fun h => cd_inj h
  cases n with
  | zero => rfl
  | succ n =>
    obtain ⟨a1, a2⟩ := wrd_app (w := cd w) (r := r) hs he
    rw [kindP, a1, a2, if_neg fun e => h0 (inj e)]
    cases litP [32] r with
    | none => rfl
    | some r1 =>
      dsimp only
      rw [if_neg fun e => h1 (inj e), if_neg fun e => h2 (inj e), if_neg fun e => e.elim (fun e => h3 (inj e)) fun e => h4 (inj e)]
/-- fields' texts -/
abbrev It := Str × List Nat × D
def itC (i : It) : List Nat := cd i.1 ++ 32 :: i.2.1
def itF (i : It) : Str × D := (i.1, i.2.2)
/-- an item that is read, whatever stands behind it -/
def Rd9 (n : Nat) (i : It) : Prop := Nm i.1 ∧ ∀ r, Ends1 r → kindP n (i.2.1 ++ r) = some (i.2.2, r)
theorem fieldsP_step {i : It} (hm : Nm i.1) : fieldsP (kindP n) (f + 1) (itC i ++ r) = (match kindP n (i.2.1 ++ r) with
    | none => none
    | some (k, r2) => match litP [41] r2 with
      | some r3 => some ([(i.1, k)], r3)
      | none => match litP [44, 32] r2 with
        | none => none
        | some r4 => match fieldsP (kindP n) f r4 with
          | none => none
          | some (fs, r5) => some ((i.1, k) :: fs, r5)) := by
  rw [fieldsP, show itC i ++ r = cd i.1 ++ 32 :: (i.2.1 ++ r) by unfold itC; simp, nameP_of hm]
  all_goals dsimp only
  all_goals cases kindP n (i.2.1 ++ r) with
  | none => rfl
  | some q =>
    dsimp only
    cases litP [41] q.2 with
    | some r3 => rfl
    | none =>
      dsimp only
      cases litP [44, 32] q.2 with
      | none => rfl
      | some r4 =>
        dsimp only
        cases fieldsP (kindP n) f r4 <;> rfl
theorem fieldsP_its : ∀ (its : List It) (f : Nat), its ≠ [] → (∀ i ∈ its, Rd9 n i) → Ends1 tail → fieldsP (kindP n) (its.length + f) (joinC (its.map itC) ++ tail) = (match litP [41] tail with
    | some r3 => some (its.map itF, r3)
    | none => match litP [44, 32] tail with
      | none => none
      | some r4 => match fieldsP (kindP n) f r4 with
        | none => none
        | some (fs, r5) => some (its.map itF ++ fs, r5))
  | [], _, h, _, _ => absurd rfl h
  | [i], f, _, h, ht => by
    obtain ⟨hm, hk⟩ := h i (by simp)
    rw [List.map_singleton, joinC, show [i].length + f = f + 1 by simp; omega, fieldsP_step hm, hk tail ht]
    dsimp only
    cases litP [41] tail with
    | some r3 => rfl
    | none =>
      dsimp only
      cases litP [44, 32] tail with
      | none => rfl
      | some r4 => rfl
  | i :: j :: its, f, _, h, ht => by
    obtain ⟨hm, hk⟩ := h i (by simp)
    have ih := fieldsP_its (j :: its) f (by simp) (fun a ha => h a (by simp [List.mem_cons.mp ha])) ht
    rw [List.map_cons, List.map_cons, joinC, ← List.map_cons (f := itC), show (i :: j :: its).length + f = ((j :: its).length + f) + 1 by simp; omega]
    rw [show itC i ++ [44, 32] ++ joinC ((j :: its).map itC) ++ tail = itC i ++ (44 :: 32 :: (joinC ((j :: its).map itC) ++ tail)) by simp]
    rw [fieldsP_step hm, hk _ ends44]
    dsimp only
    rw [lit_ne (by decide), show litP [44, 32] (44 :: 32 :: (joinC ((j :: its).map itC) ++ tail)) = some (joinC ((j :: its).map itC) ++ tail) from lit_app (x := [44, 32])]
    dsimp only
    rw [ih]
    cases litP [41] tail with
    | some r3 => rfl
    | none =>
      dsimp only
      cases litP [44, 32] tail with
      | none => rfl
      | some r4 =>
        dsimp only
        cases fieldsP (kindP n) f r4 with
        | none => rfl
        | some q => rfl
/-- one of the items can't be read -/
theorem fieldsP_no : ∀ (A : List It) (i : It) (B : List It) (f : Nat), Nm i.1 → (∀ r, Ends1 r → kindP n (i.2.1 ++ r) = none) → (∀ a ∈ A, Rd9 n a) → Ends1 tail → fieldsP (kindP n) f (joinC ((A ++ i :: B).map itC) ++ tail) = none
  | _, _, _, 0, _, _, _, _ => rfl
  | [], i, [], f + 1, hm, hk, _, ht => by
    rw [List.nil_append, List.map_singleton, joinC, fieldsP_step hm, hk _ ht]
  | [], i, b :: B, f + 1, hm, hk, _, ht => by
    rw [List.nil_append, List.map_cons, List.map_cons, joinC, show itC i ++ [44, 32] ++ joinC (itC b :: B.map itC) ++ tail = itC i ++ (44 :: 32 :: (joinC (itC b :: B.map itC) ++ tail)) by simp, fieldsP_step hm, hk _ ends44]
  | a :: A, i, B, f + 1, hm, hk, hA, ht => by
    obtain ⟨ham, hak⟩ := hA a (by simp)
    have ih := fieldsP_no A i B f hm hk (fun b hb => hA b (by simp [hb])) ht
    obtain ⟨b, C, hb⟩ : ∃ b C, A ++ i :: B = b :: C := by
      cases A with
      | nil => exact ⟨i, B, rfl⟩
      | cons a' A' => exact ⟨a', A' ++ i :: B, rfl⟩
    rw [List.cons_append, hb, List.map_cons, List.map_cons, joinC, show itC a ++ [44, 32] ++ joinC (itC b :: C.map itC) ++ tail = itC a ++ (44 :: 32 :: (joinC (itC b :: C.map itC) ++ tail)) by simp, fieldsP_step ham, hak _ ends44]
    dsimp only
    rw [lit_ne (by decide), show litP [44, 32] (44 :: 32 :: (joinC (itC b :: C.map itC) ++ tail)) = some (joinC (itC b :: C.map itC) ++ tail) from lit_app (x := [44, 32])]
    dsimp only
    rw [hb, List.map_cons] at ih
    rw [ih]
end
/-- a number's item -/
def Nu9 (i : It) : Prop := Nm i.1 ∧ ∃ v : Int, 1 ≤ v ∧ v ≤ 4 ∧ i.2 = (cd "num " ++ [48 + v.toNat], .tup [.str "num", .int v])
/-- a text of levels: how many, its codes, what is read, whether that is a kind -/
inductive Lv : Nat → List Nat → D → Bool → Prop
  | text : Lv 1 (cd "text") (.tup [.str "text"]) true
  | num {v : Int} : 1 ≤ v → v ≤ 4 → Lv 1 (cd "num " ++ [48 + v.toNat]) (.tup [.str "num", .int v]) true
  | row {d : Nat} {c : List Nat} {k : D} {g : Bool} : Lv d c k g → Lv (d + 1) (cd "row " ++ c) (.tup [.str "row", k]) g
  | fs {d : Nat} {c : List Nat} {k : D} {g : Bool} {w x : Str} {A B its : List It} : w = "rec" ∨ w = "pick" → Lv d c k g → (∀ i ∈ A, Nu9 i) → (∀ i ∈ B, Nu9 i) → Nm x → its = A ++ (x, c, k) :: B → Lv (d + 1) (cd w ++ cd " (" ++ (joinC (its.map itC) ++ [41])) (.tup [.str w, .tup ((its.map itF).map fld)]) (g && decide (its.length ≤ 6) && decide ((its.map (·.1)).Nodup))
section
variable {n m d f : Nat} {c c0 r t tail post : List Nat} {k : D} {x w : Str} {g : Bool} {A B its : List It}
theorem Lv.one (h : Lv d c k g) : 1 ≤ d := by cases h <;> omega
theorem joinC_ge : ∀ its : List It, its.length ≤ (joinC (its.map itC)).length
  | [] => Nat.le_refl _
  | [i] => by simp [joinC, itC]; omega
  | i :: j :: r => by
    have := joinC_ge (j :: r)
    rw [List.map_cons] at this
    rw [List.map_cons, List.map_cons, joinC, List.length_append, List.length_append, List.length_cons]
    simp only [List.length_cons, List.length_nil] at *
    omega
theorem Nu9.rd {i : It} (h : Nu9 i) : Rd9 (n + 1) i := by
  obtain ⟨h1, v, h2, h3, h4⟩ := h
  refine ⟨h1, fun r _ => ?_⟩
  rw [h4]
  exact kindP_num h2 h3
/-- the fields of a level -/
theorem fs_parse (hd : 1 ≤ d) (hc : ∀ r, Ends1 r → kindP n (c ++ r) = if d ≤ n then some (k, r) else none) (hA : ∀ i ∈ A, Nu9 i) (hB : ∀ i ∈ B, Nu9 i) (hx : Nm x) (e : its = A ++ (x, c, k) :: B) (ht : Ends1 tail) (hF : its.length ≤ f) :
    fieldsP (kindP n) f (joinC (its.map itC) ++ tail) = if d ≤ n then (match litP [41] tail with
    | some r3 => some (its.map itF, r3)
    | none => match litP [44, 32] tail with
      | none => none
      | some r4 => match fieldsP (kindP n) (f - its.length) r4 with
        | none => none
        | some (fs, r5) => some (its.map itF ++ fs, r5)) else none := by
  by_cases h : d ≤ n
  · rw [if_pos h]
    obtain ⟨n, rfl⟩ : ∃ q, n = q + 1 := ⟨n - 1, by omega⟩
    have hall : ∀ i ∈ its, Rd9 (n + 1) i := fun i hi => by
      rw [e] at hi
      rcases List.mem_append.mp hi with hi | hi
      · exact (hA i hi).rd
      · rcases List.mem_cons.mp hi with rfl | hi
        · exact ⟨hx, fun r hr => by rw [hc r hr, if_pos h]⟩
        · exact (hB i hi).rd
    have := fieldsP_its its (f - its.length) (by rw [e]; simp) hall ht
    rw [show its.length + (f - its.length) = f by omega] at this
    exact this
  · rw [if_neg h]
    have hno : ∀ r, Ends1 r → kindP n (c ++ r) = none := fun r hr => by rw [hc r hr, if_neg h]
    cases n with
    | zero =>
      rw [e]
      cases A with
      | nil => exact fieldsP_no [] (x, c, k) B f hx hno (fun _ h => nomatch h) ht
      | cons a A => exact fieldsP_no [] a (A ++ (x, c, k) :: B) f (hA a (by simp)).1 (fun _ _ => rfl) (fun _ h => nomatch h) ht
    | succ n =>
      rw [e]
      exact fieldsP_no A (x, c, k) B f hx hno (fun a ha => (hA a ha).rd) ht
theorem Lv.read (h : Lv d c k g) : ∀ (n : Nat) (r : List Nat), Ends1 r → kindP n (c ++ r) = if d ≤ n then some (k, r) else none := by
  induction h with
  | text =>
    intro n r hr
    cases n with
    | zero => rfl
    | succ n => rw [kindP_text hr, if_pos (by omega)]
  | num h1 h2 =>
    intro n r hr
    cases n with
    | zero => rfl
    | succ n => rw [kindP_num h1 h2, if_pos (by omega)]
  | @row d c k g h ih =>
    intro n r hr
    cases n with
    | zero => rfl
    | succ n =>
      rw [List.append_assoc, kindP_row, ih n r hr]
      by_cases hd : d ≤ n
      · rw [if_pos hd, if_pos (by omega)]
      · rw [if_neg hd, if_neg (by omega)]
  | @fs d c k g w x A B its hw h hA hB hx e ih =>
    intro n r hr
    cases n with
    | zero => rfl
    | succ n =>
      rw [List.append_assoc, List.append_assoc (bs := [41]), kindP_fs hw, fs_parse h.one (ih n) hA hB hx e (tail := [41] ++ r) ends41 (by have := joinC_ge its; rw [List.length_append]; omega)]
      by_cases hd : d ≤ n
      · rw [if_pos hd, if_pos (by omega), lit_app]
      · rw [if_neg hd, if_neg (by omega)]
theorem Lv.hd (h : Lv d c k g) : ∃ a b t, c = a :: b :: t ∧ (a = 116 ∨ a = 110 ∧ b = 117 ∨ a = 114 ∨ a = 112) := by
  cases h with
  | text => exact ⟨_, _, _, rfl, .inl rfl⟩
  | num => exact ⟨_, _, _, rfl, .inr (.inl ⟨rfl, rfl⟩)⟩
  | row => exact ⟨_, _, _, rfl, .inr (.inr (.inl rfl))⟩
  | fs hw =>
    rcases hw with rfl | rfl
    · exact ⟨_, _, _, rfl, .inr (.inr (.inl rfl))⟩
    · exact ⟨_, _, _, rfl, .inr (.inr (.inr rfl))⟩
theorem snoc_inj {a b : List Nat} {p q : Nat} (h : a ++ [p] = b ++ [q]) : a = b ∧ p = q := by
  have := List.append_inj' h rfl
  exact ⟨this.1, by injection this.2⟩
/-- without its last bracket -/
theorem Lv.opened (h : Lv d c k g) : ∀ c0, c = c0 ++ [41] → ∀ (n : Nat) (tail : List Nat), Ends1 tail → litP [41] tail = none → (litP [44, 32] tail = none ∨ ∃ r4, litP [44, 32] tail = some r4 ∧ ∀ n f, fieldsP (kindP n) f r4 = none) → kindP n (c0 ++ tail) = none := by
  induction h with
  | text =>
    intro c0 e
    have := snoc_inj (a := [116, 101, 120]) (p := 116) e
    omega
  | num h1 h2 =>
    intro c0 e
    have := (snoc_inj e).2
    omega
  | @row d c k g h ih =>
    intro c0 e n tail ht h41 h44
    obtain ⟨a, b, t, ec, _⟩ := h.hd
    have hne : c ≠ [] := by rw [ec]; simp
    have ec := (List.dropLast_concat_getLast hne).symm
    rw [ec, ← List.append_assoc] at e
    obtain ⟨e1, e2⟩ := snoc_inj e
    rw [e2] at ec
    rw [← e1]
    cases n with
    | zero => rfl
    | succ n =>
      rw [List.append_assoc, kindP_row, ih _ ec n tail ht h41 h44]
  | @fs d c k g w x A B its hw h hA hB hx e ih =>
    intro c0 e0 n tail ht h41 h44
    rw [← List.append_assoc] at e0
    obtain ⟨e1, _⟩ := snoc_inj e0
    rw [← e1]
    cases n with
    | zero => rfl
    | succ n =>
      rw [List.append_assoc, kindP_fs hw, fs_parse h.one (fun r hr => h.read n r hr) hA hB hx e ht (by have := joinC_ge its; rw [List.length_append]; omega), h41]
      dsimp only
      rcases h44 with h44 | ⟨r4, h44, h5⟩
      · rw [h44]
        by_cases hd : d ≤ n
        · rw [if_pos hd]
        · rw [if_neg hd]
      · rw [h44]
        dsimp only
        rw [h5]
        by_cases hd : d ≤ n
        · rw [if_pos hd]
        · rw [if_neg hd]
theorem Lv.kd (h : Lv d c k g) : g = true → Kd 6 d k := by
  induction h with
  | text => exact fun _ => .text
  | num h1 h2 => exact fun _ => .num h1 h2
  | row h ih => exact fun hg => .row (ih hg)
  | @fs d c k g w x A B its hw h hA hB hx e ih =>
    intro hg
    rw [Bool.and_eq_true, Bool.and_eq_true, decide_eq_true_eq, decide_eq_true_eq] at hg
    have hm : ∀ i ∈ its, Nm i.1 ∧ Kd 6 d i.2.2 := fun i hi => by
      have nu : Nu9 i → Nm i.1 ∧ Kd 6 d i.2.2 := fun ⟨a, v, b1, b2, b3⟩ => ⟨a, by
        rw [b3]
        obtain ⟨q, rfl⟩ : ∃ q, d = q + 1 := ⟨d - 1, by have := h.one; omega⟩
        exact .num b1 b2⟩
      rw [e] at hi
      rcases List.mem_append.mp hi with hi | hi
      · exact nu (hA i hi)
      · rcases List.mem_cons.mp hi with rfl | hi
        · exact ⟨hx, ih hg.1.1⟩
        · exact nu (hB i hi)
    refine .fields hw (by rw [List.length_map, e]; simp; omega) (by rw [List.length_map]; exact hg.1.2) (by rw [List.map_map]; exact hg.2) (fun f hf => ?_) fun f hf => ?_
    · obtain ⟨i, hi, rfl⟩ := List.mem_map.mp hf
      exact (hm i hi).1
    · obtain ⟨i, hi, rfl⟩ := List.mem_map.mp hf
      exact (hm i hi).2
theorem scan_nd {q : D → Int} : ∀ {fs : List (Str × D)} {seen : List Str} {zs : List Int}, scanF q seen (fs.map fld) = some zs → (fs.map (·.1)).Nodup ∧ (∀ f ∈ fs, f.1 ∉ seen) ∧ zs = fs.map fun f => q f.2
  | [], seen, zs, h => by cases h; exact ⟨.nil, fun _ h => (nomatch h), rfl⟩
  | f :: fs, seen, zs, h => by
    have h : (if (nameB f.1 && !decide (f.1 ∈ seen)) = true then (scanF q (seen ++ [f.1]) (fs.map fld)).map (q f.2 :: ·) else none) = some zs := h
    split at h
    · rename_i hb
      rw [Bool.and_eq_true] at hb
      obtain ⟨zs', hz, rfl⟩ := Option.map_eq_some_iff.mp h
      obtain ⟨a, b, c⟩ := scan_nd hz
      refine ⟨?_, fun g hg => ?_, by rw [c]; rfl⟩
      · rw [List.map_cons, List.nodup_cons]
        refine ⟨fun hm => ?_, a⟩
        obtain ⟨g, hg, e⟩ := List.mem_map.mp hm
        exact b g hg (by rw [e]; simp)
      · rcases List.mem_cons.mp hg with rfl | hg
        · simpa using hb.2
        · exact fun hm => b g hg (by simp [hm])
    · cases h
theorem depF_fs (hw : w = "rec" ∨ w = "pick") {fs : List (Str × D)} : depF (m + 1) (.tup [.str w, .tup (fs.map fld)]) = if fs.length < 7 then fieldsZ (scanF (depF m) [] (fs.map fld)) else 0 := by
  have e1 : ¬ w = "num" := by rcases hw with rfl | rfl <;> decide
  have e2 : ¬ w = "row" := by rcases hw with rfl | rfl <;> decide
  show tagZ (depF m) w (.tup (fs.map fld)) = _
  unfold tagZ
  rw [if_neg e1, if_neg e2, if_pos hw]
  show (if (fs.map fld).length < 7 then _ else _) = _
  rw [List.length_map]
theorem Lv.bad (h : Lv d c k g) : g = false → ∀ m, d ≤ m → depF m k = 0 := by
  induction h with
  | text => exact fun hg => nomatch hg
  | num h1 h2 => exact fun hg => nomatch hg
  | @row d c k g h ih =>
    intro hg m hm
    obtain ⟨m, rfl⟩ : ∃ q, m = q + 1 := ⟨m - 1, by omega⟩
    have e : depF (m + 1) (.tup [.str "row", k]) = rowZ (depF m k) := by
      show tagZ (depF m) "row" k = _
      unfold tagZ
      rw [if_neg (by decide), if_pos rfl]
    rw [e, ih hg m (by omega)]; rfl
  | @fs d c k g w x A B its hw h hA hB hx e ih =>
    intro hg m hm
    obtain ⟨m, rfl⟩ : ∃ q, m = q + 1 := ⟨m - 1, by omega⟩
    rw [depF_fs hw, List.length_map]
    split
    · rename_i hl
      cases hs : scanF (depF m) [] ((its.map itF).map fld) with
      | none => rfl
      | some zs =>
        obtain ⟨a, _, c9⟩ := scan_nd hs
        rw [List.map_map] at a
        have hgf : g = false := by
          cases hq : g with
          | false => rfl
          | true =>
            rw [hq, decide_eq_true (show its.length ≤ 6 by omega), decide_eq_true (show (its.map (·.1)).Nodup from a)] at hg
            cases hg
        have h0 := ih hgf m (by omega)
        have hz : (0 : Int) ∈ zs := by
          rw [c9, List.map_map]
          exact List.mem_map.mpr ⟨(x, c, k), by rw [e]; simp, h0⟩
        show (if zs = [] ∨ 0 ∈ zs then 0 else 1 + mx zs) = 0
        rw [if_pos (.inr hz)]
    · rfl
/-- whether what is read is a kind -/
theorem Lv.inr (h : Lv d c k g) (hd : d ≤ 5) (hm : 5 ≤ m) : inR 5 (depF m k) = g := by
  cases hg : g with
  | true =>
    have := kd_dep (h.kd hg) (show d ≤ m by omega)
    unfold inR
    rw [decide_eq_true (by omega), decide_eq_true (by omega)]; rfl
  | false =>
    rw [h.bad hg m (by omega)]; rfl
end
/-! RPd: what is due of the texts of k64: plain. -/
/-- what a text's kind is, none where it is none -/
def KdDue (l : List Nat) (kd : D) : Prop := (kd = .non ∧ ∀ k, kindP 5 l = some (k, []) → inR 5 (depF 15 k) = false) ∨ (isNon kd = false ∧ kindP 5 l = some (kd, []) ∧ inR 5 (depF 15 kd) = true)
def PpDue (l : List Nat) (pd : D) : Prop := (pd = .non ∧ ∀ nm sd ps rr, paperP l = some ((nm, sd, ps, rr), []) → paperB 18 (papD nm sd ps rr) = false) ∨ ∃ nm sd ps rr, pd = papD nm sd ps rr ∧ paperP l = some ((nm, sd, ps, rr), []) ∧ paperB 18 pd = true
def kdIf (g : Bool) (k : D) : D := if g then k else .non
section
variable {n m d f : Nat} {c c0 r t tail post l l4 l6 : List Nat} {k : D} {x w wy nm : Str} {g : Bool} {sd : Int}
theorem KdDue.no (h : kindP 5 l = none) : KdDue l .non := .inl ⟨rfl, fun k e => by rw [h] at e; cases e⟩
theorem KdDue.rest {a : Nat} {k : D} (h : kindP 5 l = none ∨ ∃ k, kindP 5 l = some (k, a :: r)) : KdDue l .non := .inl ⟨rfl, fun k e => by
  rcases h with h | ⟨k', h⟩ <;> (rw [h] at e; cases e)⟩
theorem PpDue.no (h : paperP l = none) : PpDue l .non := .inl ⟨rfl, fun _ _ _ _ e => by rw [h] at e; cases e⟩
/-- no paper begins so -/
theorem paper_no {a : Nat} (h : a ≠ 100) : PpDue (a :: r) .non := .no (by
  unfold paperP
  rw [show litP (cd "door ") (a :: r) = none from lit_ne (a := 100) (c := [111, 111, 114, 32]) (fun e => h e.symm)])
/-- no kind begins so -/
theorem door_no : KdDue (cd "door " ++ r) .non := .no (by
  rw [show cd "door " ++ r = cd "door" ++ 32 :: r by rw [show cd "door " = cd "door" ++ [32] from rfl]; simp]
  exact kindP_bad (w := "door") (by decide) (by decide) (by decide) (by decide) (by decide) (by decide) ends32)
def pTail (nm : Str) (sd : Int) (l4 : List Nat) : Option ((Str × Int × List (Str × Str × D) × D) × List Nat) := match placesO l4 with
  | none => none
  | some (ps, l5) => match litP [32] l5 with
    | none => none
    | some l6 => if l6 = cd "none" then some ((nm, sd, ps, .non), []) else match kindP 5 l6 with
      | none => none
      | some (k, r) => some ((nm, sd, ps, k), r)
theorem paper_head (hn : Nm nm) (hs : sd = 0 ∨ sd = 1) : paperP (cd "door " ++ (cd nm ++ 32 :: ((48 + sd.toNat) :: (cd " (" ++ l4)))) = pTail nm sd l4 := by
  unfold paperP
  rw [lit_app]
  dsimp only
  rw [nameP_of hn]
  dsimp only
  have : figP 0 1 ((48 + sd.toNat) :: (cd " (" ++ l4)) = some (sd, cd " (" ++ l4) := by
    unfold figP
    dsimp only
    rw [if_pos (by omega)]
    congr 2
    omega
  rw [this]
  dsimp only
  rw [lit_app]
  rfl
/-- a result behind no places -/
theorem result_tail (h : l6 ≠ cd "none") : pTail nm sd (41 :: 32 :: l6) = (match kindP 5 l6 with | none => none | some (k, r) => some ((nm, sd, [], k), r)) := by
  unfold pTail placesO
  rw [show litP [41] (41 :: 32 :: l6) = some (32 :: l6) from lit_app (x := [41])]
  dsimp only
  rw [show litP [32] (32 :: l6) = some l6 from lit_app (x := [32])]
  dsimp only
  rw [if_neg h]
theorem places_step (hm : Nm x) (hw : ∀ a ∈ cd wy, small a) : placesP (f + 1) (cd x ++ 32 :: (cd wy ++ 32 :: r)) = (match kindP 5 r with
    | none => none
    | some (k, r2) => match litP [41] r2 with
      | some r3 => some ([(x, wy, k)], r3)
      | none => match litP [44, 32] r2 with
        | none => none
        | some r4 => match placesP f r4 with
          | none => none
          | some (ps, r5) => some ((x, wy, k) :: ps, r5)) := by
  obtain ⟨a1, a2⟩ := wrd_app (w := cd wy) (r := 32 :: r) hw ends32
  rw [placesP, nameP_of hm]
  dsimp only
  rw [a1, a2, show litP [32] (32 :: r) = some r from lit_app (x := [32]), mkS_cd]
  all_goals dsimp only
  all_goals cases kindP 5 r with
  | none => rfl
  | some q =>
    dsimp only
    cases litP [41] q.2 with
    | some r3 => rfl
    | none =>
      dsimp only
      cases litP [44, 32] q.2 with
      | none => rfl
      | some r4 =>
        dsimp only
        cases placesP f r4 <;> rfl
theorem Lv.nn (h : Lv d c k g) : c ++ r ≠ cd "none" := by
  obtain ⟨a, b, t, e, h1⟩ := h.hd
  rw [e]
  intro q
  injection q with q1 q2
  injection q2 with q2 _
  have q1 : a = 110 := q1
  have q2 : b = 111 := q2
  rcases h1 with h1 | ⟨h1, h2⟩ | h1 | h1 <;> omega
theorem Lv.nn0 (h : Lv d (c0 ++ [41]) k g) : c0 ++ r ≠ cd "none" ∧ ∃ a t, c0 = a :: t ∧ a ≠ 100 := by
  obtain ⟨a, b, t, e, h1⟩ := h.hd
  cases c0 with
  | nil =>
    injection e with e1 e2
    cases e2
  | cons a' c1 =>
    injection e with e1 e2
    subst e1
    refine ⟨fun q => ?_, a', c1, rfl, by rcases h1 with h1 | ⟨h1, _⟩ | h1 | h1 <;> omega⟩
    injection q with q1 q2
    have q1 : a' = 110 := q1
    have hb : b = 117 := by rcases h1 with h1 | ⟨h1, h2⟩ | h1 | h1 <;> omega
    subst hb
    cases c1 with
    | nil =>
      injection e2 with e2 _
      cases e2
    | cons b' c2 =>
      injection e2 with e2 _
      injection q2 with q2 _
      have q2 : b' = 111 := q2
      omega
/-- the kinds told -/
theorem kd_whole (h : Lv d c k g) : KdDue c (kdIf (g && decide (d ≤ 5)) k) := by
  have hr := h.read 5 [] ends0
  rw [List.append_nil] at hr
  by_cases hd : d ≤ 5
  · rw [if_pos hd] at hr
    have hi := h.inr hd (m := 15) (by decide)
    rw [decide_eq_true hd, Bool.and_true]
    cases g with
    | true =>
      refine .inr ⟨?_, hr, hi⟩
      show isNon k = false
      cases h.kd rfl <;> rfl
    | false =>
      refine .inl ⟨rfl, fun k' e => ?_⟩
      rw [hr] at e
      cases e
      exact hi
  · rw [if_neg hd] at hr
    rw [decide_eq_false hd, Bool.and_false]
    exact .no hr
theorem kd_more {a : Nat} (h : Lv d c k g) (ha : ¬ small a) : KdDue (c ++ [a]) .non := by
  have hr := h.read 5 [a] (ends_c ha)
  refine .rest (a := a) (r := []) (k := k) ?_
  by_cases hd : d ≤ 5
  · rw [if_pos hd] at hr; exact .inr ⟨k, hr⟩
  · rw [if_neg hd] at hr; exact .inl hr
theorem kd_less (h : Lv d (c0 ++ [41]) k g) : KdDue c0 .non := .no (by
  have := h.opened c0 rfl 5 [] ends0 lit_nil (.inl lit_nil)
  rwa [List.append_nil] at this)
theorem pp_kind (h : Lv d c k g) : PpDue (c ++ r) .non := by
  obtain ⟨a, b, t, e, h1⟩ := h.hd
  rw [e]
  exact paper_no (by rcases h1 with h1 | ⟨h1, _⟩ | h1 | h1 <;> omega)
theorem pp_less (h : Lv d (c0 ++ [41]) k g) : PpDue c0 .non := by
  obtain ⟨_, a, t, e, h1⟩ := h.nn0 (r := [])
  rw [e]
  exact paper_no h1
/-- a paper's result -/
def resT (nm : Str) (sd : Int) (l : List Nat) : List Nat := cd "door " ++ (cd nm ++ 32 :: ((48 + sd.toNat) :: (cd " (" ++ (41 :: 32 :: l))))
theorem res_parse (hn : Nm nm) (hs : sd = 0 ∨ sd = 1) (h : l6 ≠ cd "none") : paperP (resT nm sd l6) = (match kindP 5 l6 with | none => none | some (k, r) => some ((nm, sd, [], k), r)) := by
  unfold resT
  rw [paper_head hn hs, result_tail h]
theorem res_no (hn : Nm nm) (hs : sd = 0 ∨ sd = 1) (h : l6 ≠ cd "none") (hk : kindP 5 l6 = none ∨ ∃ k a r, kindP 5 l6 = some (k, a :: r)) : PpDue (resT nm sd l6) .non := .inl ⟨rfl, fun _ _ _ _ e => by
  rw [res_parse hn hs h] at e
  rcases hk with hk | ⟨k, a, r, hk⟩ <;> (rw [hk] at e; cases e)⟩
theorem res_whole (hn : Nm nm) (hs : sd = 0 ∨ sd = 1) (h : Lv d c k g) : PpDue (resT nm sd c) (if (g && decide (d ≤ 5)) then papD nm sd [] k else .non) := by
  have hr := h.read 5 [] ends0
  have hne := h.nn (r := [])
  rw [List.append_nil] at hr hne
  have hp := res_parse hn hs hne
  rw [hr] at hp
  by_cases hd : d ≤ 5
  · rw [if_pos hd] at hp
    dsimp only at hp
    have hi := h.inr hd (m := 18) (by decide)
    have hB : paperB 18 (papD nm sd [] k) = g := by
      show (nameB nm && (decide (0 ≤ sd) && decide (sd ≤ 1)) && plB 18 [] [] && (isNon k || inR 5 (depF 18 k))) = g
      rw [nameB_nm.mpr hn, decide_eq_true (by omega), decide_eq_true (by omega), hi, show plB 18 [] [] = true from rfl]
      have : isNon k = false := by cases h <;> rfl
      rw [this]; simp
    rw [decide_eq_true hd, Bool.and_true]
    cases g with
    | true => exact .inr ⟨nm, sd, [], k, if_pos rfl, hp, by rw [if_pos rfl]; exact hB⟩
    | false =>
      rw [if_neg (by decide)]
      refine .inl ⟨rfl, fun a b c' d' e => ?_⟩
      rw [hp] at e
      cases e
      exact hB
  · rw [if_neg hd] at hp
    rw [decide_eq_false hd, Bool.and_false, if_neg (by decide)]
    exact .no hp
theorem res_more {a : Nat} (hn : Nm nm) (hs : sd = 0 ∨ sd = 1) (h : Lv d c k g) (ha : ¬ small a) : PpDue (resT nm sd (c ++ [a])) .non := by
  have hr := h.read 5 [a] (ends_c ha)
  refine res_no hn hs h.nn ?_
  by_cases hd : d ≤ 5
  · rw [if_pos hd] at hr; exact .inr ⟨k, a, [], hr⟩
  · rw [if_neg hd] at hr; exact .inl hr
theorem res_less (hn : Nm nm) (hs : sd = 0 ∨ sd = 1) (h : Lv d (c0 ++ [41]) k g) : PpDue (resT nm sd c0) .non := by
  have := h.opened c0 rfl 5 [] ends0 lit_nil (.inl lit_nil)
  have h0 := (h.nn0 (r := [])).1
  rw [List.append_nil] at this h0
  exact res_no hn hs h0 (.inl this)
/-- a place's kind -/
def plcZ : List Nat := cd ", yy copy text) none"
def plcT (l : List Nat) : List Nat := cd "door " ++ (cd "ab" ++ 32 :: ((48 + (1 : Int).toNat) :: (cd " (" ++ (cd "x" ++ 32 :: (cd "lend" ++ 32 :: (l ++ plcZ))))))
theorem nm_ab : Nm "ab" := ⟨by decide, by decide, by decide⟩
theorem nm_x : Nm "x" := ⟨by decide, by decide, by decide⟩
theorem nm_yy : Nm "yy" := ⟨by decide, by decide, by decide⟩
theorem z41 : litP [41] plcZ = none := lit_ne (by decide)
theorem z44 : litP [44, 32] plcZ = some (cd "yy" ++ 32 :: (cd "copy" ++ 32 :: (cd "text" ++ 41 :: 32 :: cd "none"))) := lit_app (x := [44, 32])
theorem plc_places : placesO (cd "x" ++ 32 :: (cd "lend" ++ 32 :: r)) = (match kindP 5 r with
    | none => none
    | some (k, r2) => match litP [41] r2 with
      | some r3 => some ([("x", "lend", k)], r3)
      | none => match litP [44, 32] r2 with
        | none => none
        | some r4 => match placesP (r.length + 7) r4 with
          | none => none
          | some (ps, r5) => some (("x", "lend", k) :: ps, r5)) := by
  unfold placesO
  rw [show litP [41] (cd "x" ++ 32 :: (cd "lend" ++ 32 :: r)) = none from lit_ne (by decide)]
  dsimp only
  rw [show (cd "x" ++ 32 :: (cd "lend" ++ 32 :: r)).length + 1 = (r.length + 7) + 1 by simp [show (cd "x").length = 1 from rfl, show (cd "lend").length = 4 from rfl]; omega, places_step nm_x (by decide)]
theorem plc_no (h : kindP 5 (l ++ plcZ) = none ∨ ∃ k a r, kindP 5 (l ++ plcZ) = some (k, a :: r) ∧ (a = 41 ∧ r = plcZ ∨ a = 32)) : PpDue (plcT l) .non := .no (by
  unfold plcT
  rw [paper_head nm_ab (.inr rfl)]
  unfold pTail
  rw [plc_places]
  rcases h with h | ⟨k, a, r, h, hr⟩
  · rw [h]
  · rw [h]
    dsimp only
    rcases hr with ⟨rfl, rfl⟩ | rfl
    · rw [show litP [41] (41 :: plcZ) = some plcZ from lit_app (x := [41])]
      dsimp only
      rw [show litP [32] plcZ = none from lit_ne (by decide)]
    · rw [show litP [41] (32 :: r) = none from lit_ne (by decide)]
      dsimp only
      rw [show litP [44, 32] (32 :: r) = none from lit_ne (by decide)])
theorem fields_yy : ∀ n f, fieldsP (kindP n) f (cd "yy" ++ 32 :: (cd "copy" ++ 32 :: (cd "text" ++ 41 :: 32 :: cd "none"))) = none := fun n f => by
  cases f with
  | zero => rfl
  | succ f =>
    rw [fieldsP, nameP_of nm_yy]
    dsimp only
    rw [kindP_bad (w := "copy") (by decide) (by decide) (by decide) (by decide) (by decide) (by decide) ends32]
theorem plc_less (h : Lv d (c0 ++ [41]) k g) : PpDue (plcT c0) .non :=
  plc_no (.inl (h.opened c0 rfl 5 plcZ ends44 z41 (.inr ⟨_, z44, fields_yy⟩)))
theorem plc_more {a : Nat} (h : Lv d c k g) (ha : a = 41 ∨ a = 32) : PpDue (plcT (c ++ [a])) .non := by
  have hr := h.read 5 (a :: plcZ) (ends_c (by unfold small; omega))
  refine plc_no ?_
  rw [List.append_assoc, List.singleton_append]
  by_cases hd : d ≤ 5
  · rw [if_pos hd] at hr
    exact .inr ⟨k, a, plcZ, hr, by rcases ha with rfl | rfl; exact .inl ⟨rfl, rfl⟩; exact .inr rfl⟩
  · rw [if_neg hd] at hr; exact .inl hr
theorem plc_whole (h : Lv d c k g) : PpDue (plcT c) (if (g && decide (d ≤ 5)) then papD "ab" 1 [("x", "lend", k), ("yy", "copy", .tup [.str "text"])] .non else .non) := by
  have hr := h.read 5 plcZ ends44
  by_cases hd : d ≤ 5
  · rw [if_pos hd] at hr
    have hp : paperP (plcT c) = some ((("ab" : Str), (1 : Int), ([(("x" : Str), ("lend" : Str), k), (("yy" : Str), ("copy" : Str), .tup [.str "text"])] : List (Str × Str × D)), D.non), ([] : List Nat)) := by
      unfold plcT
      rw [paper_head nm_ab (.inr rfl)]
      unfold pTail
      rw [plc_places, hr]
      dsimp only
      rw [z41, z44]
      dsimp only
      rw [show (c ++ plcZ).length + 7 = ((c ++ plcZ).length + 6) + 1 from rfl, places_step nm_yy (by decide), kindP_text (n := 4) ends41]
      dsimp only
      rw [show litP [41] (41 :: 32 :: cd "none") = some (32 :: cd "none") from lit_app (x := [41])]
      dsimp only
      rw [show litP [32] (32 :: cd "none") = some (cd "none") from lit_app (x := [32])]
      dsimp only
      rw [if_pos rfl]
    have hi := h.inr hd (m := 18) (by decide)
    have hB : paperB 18 (papD "ab" 1 [("x", "lend", k), ("yy", "copy", .tup [.str "text"])] .non) = g := by
      show (true && true && ((true && true && inR 5 (depF 18 k) && true && (true && true && inR 5 (depF 18 (.tup [.str "text"])) && true && true))) && true) = g
      rw [hi, show inR 5 (depF 18 (.tup [.str "text"])) = true from rfl]
      cases g <;> rfl
    rw [decide_eq_true hd, Bool.and_true]
    cases g with
    | true => exact .inr ⟨"ab", 1, [("x", "lend", k), ("yy", "copy", .tup [.str "text"])], .non, if_pos rfl, hp, by rw [if_pos rfl]; exact hB⟩
    | false =>
      rw [if_neg (by decide)]
      refine .inl ⟨rfl, fun a b c' d' e => ?_⟩
      rw [hp] at e
      cases e
      exact hB
  · rw [if_neg hd] at hr
    rw [decide_eq_false hd, Bool.and_false, if_neg (by decide)]
    exact plc_no (.inl hr)
/-! ### deep ones -/
def rep9 (m : Nat) (h : List Nat) : List Nat := (List.replicate m h).flatten
theorem rep9_succ {h : List Nat} : rep9 (m + 1) h = h ++ rep9 m h := by unfold rep9; rw [List.replicate_succ, List.flatten_cons]
theorem deep_row : ∀ (n m : Nat), n ≤ m → kindP n (rep9 m (cd "row ") ++ r) = none
  | 0, _, _ => rfl
  | n + 1, 0, h => absurd h (by omega)
  | n + 1, m + 1, h => by
    rw [rep9_succ, List.append_assoc, kindP_row, deep_row n m (by omega)]
theorem nm_a : Nm "a" := ⟨by decide, by decide, by decide⟩
theorem nm_b : Nm "b" := ⟨by decide, by decide, by decide⟩
theorem nm_h : Nm "abcdefgh" := ⟨by decide, by decide, by decide⟩
theorem deep_fs {hd : List Nat} (hw : w = "rec" ∨ w = "pick") (hx : Nm x) (e : hd = cd w ++ cd " (" ++ (cd x ++ [32])) : ∀ (n m : Nat), n ≤ m → kindP n (rep9 m hd ++ r) = none
  | 0, _, _ => rfl
  | n + 1, 0, h => absurd h (by omega)
  | n + 1, m + 1, h => by
    have ih := deep_fs hw hx e n m (by omega)
    rw [rep9_succ, List.append_assoc]
    generalize rep9 m hd ++ r = Y at ih
    rw [e, show cd w ++ cd " (" ++ (cd x ++ [32]) ++ Y = cd w ++ cd " (" ++ (cd x ++ 32 :: Y) by simp, kindP_fs hw, fieldsP, nameP_of hx]
    dsimp only
    rw [ih]
theorem deep_b : ∀ (n m : Nat), n ≤ m → kindP n (rep9 m (cd "rec (a num 1, b ") ++ r) = none
  | 0, _, _ => rfl
  | n + 1, 0, h => absurd h (by omega)
  | n + 1, m + 1, h => by
    have ih := deep_b n m (by omega)
    rw [rep9_succ, List.append_assoc]
    generalize rep9 m (cd "rec (a num 1, b ") ++ r = Y at ih
    rw [show cd "rec (a num 1, b " ++ Y = cd "rec" ++ cd " (" ++ (cd "a" ++ 32 :: (cd "num " ++ [48 + (1 : Int).toNat] ++ (44 :: 32 :: (cd "b" ++ 32 :: Y)))) from rfl, kindP_fs (.inl rfl), fieldsP, nameP_of nm_a]
    dsimp only
    cases n with
    | zero => rfl
    | succ n =>
      rw [kindP_num (by decide) (by decide)]
      dsimp only
      rw [show litP [41] (44 :: 32 :: (cd "b" ++ 32 :: Y)) = none from lit_ne (by decide), show litP [44, 32] (44 :: 32 :: (cd "b" ++ 32 :: Y)) = some (cd "b" ++ 32 :: Y) from lit_app (x := [44, 32])]
      dsimp only
      rw [show (cd "a" ++ 32 :: (cd "num " ++ [48 + (1 : Int).toNat] ++ (44 :: 32 :: (cd "b" ++ 32 :: Y)))).length = Y.length + 10 + 1 by simp [show (cd "a").length = 1 from rfl, show (cd "b").length = 1 from rfl, show (cd "num ").length = 4 from rfl]; omega, fieldsP, nameP_of nm_b]
      dsimp only
      rw [ih]
def itN9 : It := ("a", cd "num " ++ [48 + (1 : Int).toNat], .tup [.str "num", .int 1])
def itT9 : It := ("a", cd "text", .tup [.str "text"])
/-- many fields of one name -/
theorem many_a : ∀ m : Nat, joinC ((List.replicate m itN9 ++ [itT9]).map itC) = rep9 m (cd "a num 1, ") ++ cd "a text"
  | 0 => rfl
  | m + 1 => by
    have ih := many_a m
    rw [List.replicate_succ, List.cons_append, List.map_cons, rep9_succ]
    cases hq : (List.replicate m itN9 ++ [itT9]).map itC with
    | nil => simp at hq
    | cons b q =>
      rw [joinC, ← hq, ih]
      rfl
theorem lv_many (hw : w = "rec" ∨ w = "pick") (hm : 1 ≤ m) : ∃ k, Lv 2 (cd w ++ cd " (" ++ ((rep9 m (cd "a num 1, ") ++ cd "a text") ++ [41])) k false := by
  have h := Lv.fs (w := w) (x := "a") (A := List.replicate m itN9) (B := []) (its := List.replicate m itN9 ++ [itT9]) hw .text (fun i hi => by
    rw [List.eq_of_mem_replicate hi]
    exact ⟨nm_a, 1, by decide, by decide, rfl⟩) (fun i hi => nomatch hi) nm_a rfl
  rw [many_a] at h
  have e : decide (((List.replicate m itN9 ++ [itT9]).map fun x => x.1).Nodup) = false := by
    rw [decide_eq_false_iff_not]
    obtain ⟨m, rfl⟩ : ∃ q, m = q + 1 := ⟨m - 1, by omega⟩
    rw [List.replicate_succ]
    simp
    exact fun _ h => absurd rfl h
  rw [e, Bool.and_false] at h
  exact ⟨_, h⟩
theorem lv_many2 (hm : 1 ≤ m) : ∃ k, Lv 3 (cd "rec" ++ cd " (" ++ ((cd "a" ++ 32 :: (cd "pick" ++ cd " (" ++ ((rep9 m (cd "a num 1, ") ++ cd "a text") ++ [41]))) ++ [41])) k false := by
  obtain ⟨k, h⟩ := lv_many (w := "pick") (.inr rfl) hm
  have := Lv.fs (w := "rec") (x := "a") (A := []) (B := []) (.inl rfl) h (fun i hi => nomatch hi) (fun i hi => nomatch hi) nm_a rfl
  exact ⟨_, this⟩
/-- many places of one name -/
theorem many_b : ∀ (m f : Nat), m + 1 ≤ f → placesP f (rep9 m (cd "b copy text, ") ++ cd "b copy text) none") = some (List.replicate (m + 1) (("b" : Str), ("copy" : Str), D.tup [.str "text"]), 32 :: cd "none")
  | 0, 0, h => absurd h (by omega)
  | m + 1, 0, h => absurd h (by omega)
  | 0, f + 1, _ => by
    rw [show rep9 0 (cd "b copy text, ") ++ cd "b copy text) none" = cd "b" ++ 32 :: (cd "copy" ++ 32 :: (cd "text" ++ 41 :: 32 :: cd "none")) from rfl, places_step nm_b (by decide), kindP_text (n := 4) ends41]
    dsimp only
    rw [show litP [41] (41 :: 32 :: cd "none") = some (32 :: cd "none") from lit_app (x := [41])]
    rfl
  | m + 1, f + 1, h => by
    have ih := many_b m f (by omega)
    rw [rep9_succ, List.append_assoc]
    generalize rep9 m (cd "b copy text, ") ++ cd "b copy text) none" = Y at ih
    rw [show cd "b copy text, " ++ Y = cd "b" ++ 32 :: (cd "copy" ++ 32 :: (cd "text" ++ 44 :: 32 :: Y)) from rfl, places_step nm_b (by decide), kindP_text (n := 4) ends44]
    dsimp only
    rw [show litP [41] (44 :: 32 :: Y) = none from lit_ne (by decide), show litP [44, 32] (44 :: 32 :: Y) = some Y from lit_app (x := [44, 32])]
    dsimp only
    rw [ih]
    rfl
theorem pp_many (hm : 1 ≤ m) : PpDue (cd "door a 0 (" ++ (rep9 m (cd "b copy text, ") ++ cd "b copy text) none")) .non := by
  refine .inl ⟨rfl, fun a b c' d' e => ?_⟩
  generalize hY : rep9 m (cd "b copy text, ") ++ cd "b copy text) none" = Y at e
  have hl : m + 1 ≤ Y.length + 1 := by
    have := many_b m (m + 1) (Nat.le_refl _)
    rw [hY] at this
    have := (placesP_all _ _ _ _ this).1
    rw [List.length_replicate] at this
    omega
  have h1 := many_b m (Y.length + 1) hl
  rw [hY] at h1
  rw [show cd "door a 0 (" ++ Y = cd "door " ++ (cd "a" ++ 32 :: ((48 + (0 : Int).toNat) :: (cd " (" ++ Y))) from rfl, paper_head nm_a (.inl rfl)] at e
  unfold pTail placesO at e
  have h41 : litP [41] Y = none := by
    rw [← hY]
    cases m with
    | zero => exact lit_ne (by decide)
    | succ m => rw [rep9_succ, List.append_assoc]; exact lit_ne (by decide)
  rw [h41] at e
  dsimp only at e
  rw [h1] at e
  dsimp only at e
  rw [show litP [32] (32 :: cd "none") = some (cd "none") from lit_app (x := [32])] at e
  dsimp only at e
  rw [if_pos rfl] at e
  cases e
  obtain ⟨m, rfl⟩ : ∃ q, m = q + 1 := ⟨m - 1, by omega⟩
  rw [List.replicate_succ, List.replicate_succ]
  rfl
theorem plc_b (h : kindP 5 l = none ∨ ∃ k, kindP 5 l = some (k, [])) : PpDue (cd "door a 0 (b give " ++ l) .non := .no (by
  rw [show cd "door a 0 (b give " ++ l = cd "door " ++ (cd "a" ++ 32 :: ((48 + (0 : Int).toNat) :: (cd " (" ++ (cd "b" ++ 32 :: (cd "give" ++ 32 :: l))))) from rfl, paper_head nm_a (.inl rfl)]
  unfold pTail placesO
  rw [show litP [41] (cd "b" ++ 32 :: (cd "give" ++ 32 :: l)) = none from lit_ne (by decide)]
  dsimp only
  rw [places_step nm_b (by decide)]
  rcases h with h | ⟨k, h⟩
  · rw [h]
  · rw [h]
    dsimp only
    rw [show litP [41] ([] : List Nat) = none from lit_nil]
    dsimp only
    rw [show litP [44, 32] ([] : List Nat) = none from lit_nil])
end
/-! RPe: a level more (k64's law). -/
theorem rep_one {c : Nat} {z : Int} : repS (Str.mk #[c]) z = mkS (List.replicate z.toNat c) := by
  unfold repS mkS
  congr 2
  induction z.toNat with
  | zero => rfl
  | succ n ih => rw [List.replicate_succ, List.flatten_cons, ih, List.replicate_succ]; rfl
/-- a name of a level -/
def nm9 (one : Int) (j : Nat) : Str := mkS (List.replicate (1 + (one / 234 + 3 * (j : Int)) % 8).toNat (97 + ((one / 9 + 7 * (j : Int)) % 26).toNat))
theorem nm9_nm {one : Int} {j : Nat} : Nm (nm9 one j) := by
  have h1 := Int.emod_nonneg (one / 234 + 3 * (j : Int)) (show (8 : Int) ≠ 0 by decide)
  have h2 := Int.emod_lt_of_pos (one / 234 + 3 * (j : Int)) (show (0 : Int) < 8 by decide)
  have h3 := Int.emod_nonneg (one / 9 + 7 * (j : Int)) (show (26 : Int) ≠ 0 by decide)
  have h4 := Int.emod_lt_of_pos (one / 9 + 7 * (j : Int)) (show (0 : Int) < 26 by decide)
  unfold nm9
  refine ⟨by rw [cd_mkS, List.length_replicate]; omega, by rw [cd_mkS, List.length_replicate]; omega, fun c hc => ?_⟩
  rw [cd_mkS] at hc
  rw [List.eq_of_mem_replicate hc]
  unfold small
  omega
theorem nm9_nd {one : Int} {M : Nat} (hM : M ≤ 9) : ((List.range M).map (nm9 one)).Nodup := by
  rw [List.Nodup, List.pairwise_map]
  refine List.Pairwise.imp_of_mem (fun {a b} ha hb hne he => hne ?_) List.nodup_range
  rw [List.mem_range] at ha hb
  have h1 := congrArg cd he
  unfold nm9 at h1
  rw [cd_mkS, cd_mkS] at h1
  have p1 := Int.emod_nonneg (one / 234 + 3 * (a : Int)) (show (8 : Int) ≠ 0 by decide)
  have p2 := Int.emod_nonneg (one / 234 + 3 * (b : Int)) (show (8 : Int) ≠ 0 by decide)
  have h0 := congrArg (fun l : List Nat => l[0]?) h1
  simp only [List.getElem?_replicate] at h0
  rw [if_pos (by omega), if_pos (by omega)] at h0
  have h0 := Option.some.inj h0
  have h2 := Int.emod_nonneg (one / 9 + 7 * (a : Int)) (show (26 : Int) ≠ 0 by decide)
  have h3 := Int.emod_nonneg (one / 9 + 7 * (b : Int)) (show (26 : Int) ≠ 0 by decide)
  omega
def itJ (N : List Str) (j : Nat) : It := (N.getD j "", cd "num " ++ [48 + (1 + ((j : Int) % 4)).toNat], .tup [.str "num", .int (1 + (j : Int) % 4)])
section
variable {n m d f L M ld : Nat} {c c0 r t tail post : List Nat} {k : D} {x w : Str} {g : Bool} {s : S} {Q : D → S → Prop} {X : Nat → S → Prop} {N : List Str}
theorem itJ_nu (hN : ∀ x ∈ N, Nm x) {j : Nat} (hj : j < N.length) : Nu9 (itJ N j) := by
  refine ⟨?_, 1 + (j : Int) % 4, by omega, by omega, rfl⟩
  show Nm (N.getD j "")
  rw [List.getD_eq_getElem?_getD, List.getElem?_eq_getElem hj]
  exact hN _ (List.getElem_mem hj)
/-- the items of a level -/
def itsL (N : List Str) (ld : Nat) (c : List Nat) (k : D) : List It := ((List.range N.length).map (itJ N)).set ld (N.getD ld "", c, k)
theorem itsL_at (hl : ld < N.length) : itsL N ld c k = ((List.range N.length).map (itJ N)).take ld ++ (N.getD ld "", c, k) :: ((List.range N.length).map (itJ N)).drop (ld + 1) := by
  unfold itsL
  rw [List.set_eq_take_append_cons_drop, if_pos (by simpa using hl)]
theorem itsL_len : (itsL N ld c k).length = N.length := by unfold itsL; simp
theorem itsL_names : (itsL N ld c k).map (·.1) = N := by
  apply List.ext_getElem?
  intro i
  unfold itsL
  rw [List.map_set, List.map_map]
  by_cases h : i = ld
  · subst h
    by_cases hl : i < N.length
    · rw [List.getElem?_set_self (by simpa using hl), List.getD_eq_getElem?_getD, List.getElem?_eq_getElem hl]; rfl
    · rw [List.getElem?_eq_none (by simpa using hl), List.getElem?_eq_none (by omega)]
  · rw [List.getElem?_set_ne (fun e => h e.symm), List.getElem?_map]
    by_cases hl : i < N.length
    · rw [List.getElem?_range hl, List.getElem?_eq_getElem hl]
      show some (N.getD i "") = _
      rw [List.getD_eq_getElem?_getD, List.getElem?_eq_getElem hl]; rfl
    · rw [List.getElem?_eq_none (by simpa using hl), List.getElem?_eq_none (by omega)]; rfl
theorem lv_its (hw : w = "rec" ∨ w = "pick") (h : Lv d c k g) (hN : ∀ x ∈ N, Nm x) (hl : ld < N.length) : Lv (d + 1) (cd w ++ cd " (" ++ (joinC ((itsL N ld c k).map itC) ++ [41])) (.tup [.str w, .tup (((itsL N ld c k).map itF).map fld)]) (g && decide (N.length ≤ 6) && decide N.Nodup) := by
  have nu : ∀ i ∈ (List.range N.length).map (itJ N), Nu9 i := fun i hi => by
    obtain ⟨j, hj, rfl⟩ := List.mem_map.mp hi
    exact itJ_nu hN (List.mem_range.mp hj)
  have hx : Nm (N.getD ld "") := by
    rw [List.getD_eq_getElem?_getD, List.getElem?_eq_getElem hl]
    exact hN _ (List.getElem_mem hl)
  have := Lv.fs (A := ((List.range N.length).map (itJ N)).take ld) (B := ((List.range N.length).map (itJ N)).drop (ld + 1)) hw h (fun i hi => nu i (List.mem_of_mem_take hi)) (fun i hi => nu i (List.mem_of_mem_drop hi)) hx (itsL_at (k := k) (c := c) hl)
  rw [itsL_len, itsL_names] at this
  exact this
theorem sum_bd64 {its : List It} {B : Nat} (h : ∀ i ∈ its, (itC i).length ≤ B) : ((its.map itC).map fun a => a.length + 2).sum ≤ its.length * (B + 2) := by
  induction its with
  | nil => simp
  | cons i r ih =>
    have h1 := h i (by simp)
    have h2 := ih fun j hj => h j (by simp [hj])
    simp only [List.map_cons, List.sum_cons, List.length_cons, Nat.succ_mul] at *
    omega
theorem itsL_sum (hN : ∀ x ∈ N, Nm x) (hl : ld < N.length) (hM : N.length ≤ 9) : (((itsL N ld c k).map itC).map fun a => a.length + 2).sum ≤ c.length + 200 := by
  rw [itsL_at hl]
  simp only [List.map_append, List.map_cons, List.sum_append, List.sum_cons]
  have nu : ∀ i ∈ (List.range N.length).map (itJ N), (itC i).length ≤ 14 := fun i hi => by
    obtain ⟨j, hj, rfl⟩ := List.mem_map.mp hi
    have := (itJ_nu hN (List.mem_range.mp hj)).1.le
    unfold itC itJ at *
    simp only [List.length_append, List.length_cons, List.length_nil, show (cd "num ").length = 4 from rfl] at *
    omega
  have hx : (cd (N.getD ld "")).length ≤ 8 := by
    rw [List.getD_eq_getElem?_getD, List.getElem?_eq_getElem hl]
    exact (hN _ (List.getElem_mem hl)).le
  have h1 := sum_bd64 (its := ((List.range N.length).map (itJ N)).take ld) (B := 14) fun i hi => nu i (List.mem_of_mem_take hi)
  have h2 := sum_bd64 (its := ((List.range N.length).map (itJ N)).drop (ld + 1)) (B := 14) fun i hi => nu i (List.mem_of_mem_drop hi)
  simp only [List.length_take, List.length_drop, List.length_map, List.length_range] at h1 h2
  have h3 : (itC (N.getD ld "", c, k)).length = (cd (N.getD ld "")).length + 1 + c.length := by unfold itC; simp; omega
  rw [h3]
  omega
theorem kAnd_val64 {F : Fn} {b : E} {e : Env} {s : S} {Q : D → S → Prop} {X : Nat → S → Prop} {k r : Bool} (he : Ok (denE F b e s) Q X = Q (.bl r) s) : kAnd F b e Q X (.bl k) s = Q (.bl (k && r)) s := by
  cases k
  · rfl
  · exact he
theorem kOrT_mid64 {F : Fn} {b : Te} {a c : B} {e : Env} {x : Xs} {N : Env → S → Prop} {X : Nat → S → Prop} {k : Bool} {s : S} (M : Env → S → Prop) (h1 : kOrT F b e (kIf F a c e M x) X k s) (h2 : ∀ e s, M e s → N e s) : kOrT F b e (kIf F a c e N x) X k s := by
  cases k with
  | true => exact kIf_mid M h1 h2
  | false => exact Ok.imp h1 (fun v s h => kIf_mid M h h2) fun _ _ h => h
theorem ixN_pos {Z i : Nat} (h : i < Z) : ixN Z (i : Int) = some i := by unfold ixN; simp; omega
theorem ixN_m1 {Z : Nat} (h : 1 ≤ Z) : ixN Z (-1) = some (Z - 1) := by unfold ixN; simp; omega
/-- a level more -/
theorem level_ok {word one : Int} (hL : 1 ≤ L) (h : Lv d c k g) (hc : c.length ≤ 10000) (hw0 : 0 ≤ word) (hw2 : word ≤ 2)
    (hq : ∀ c' k' g' s', Lv (d + 1) c' k' g' → c'.length ≤ c.length + 210 → Fr [] s s' → Q (.tup [.str (mkS c'), kdIf g' k']) s') : Ok (callK G L i_l_level [.tup [.str (mkS c), kdIf g k], .int word, .int one] s) Q X := by
  obtain ⟨K, rfl⟩ : ∃ k, L = k + 1 := ⟨L - 1, by omega⟩
  obtain ⟨ds9, rfl⟩ : ∃ ds, k = .tup ds := by cases h <;> exact ⟨_, rfl⟩
  rw [Ok_call G_l_level]
  unfold d_l_level
  (wp_walk using Ok_ok)
  refine kIf_split (fun hw => ?_) (fun hw => ?_)
  · (wp_walk using add_mk (x := "row ") (l := cd "row ") (m := c) (s := s) rfl cd_mkS (by rw [show (cd "row ").length = 4 from rfl]; omega))
    refine Al_lst fun kl s1 hkl hB f1 => ?_
    have fin := hq _ _ _ s1 (.row h) (by rw [List.length_append, show (cd "row ").length = 4 from rfl]; omega) f1
    cases g with
    | true =>
      have a1 : atI [D.non, .tup [.str "row", .tup ds9]] 1 = some (.tup [.str "row", .tup ds9]) := rfl
      (wp_walk using idx_ref hB, a1)
      exact fin
    | false =>
      have a1 : atI [D.non, .tup [.str "row", .non]] 0 = some .non := rfl
      (wp_walk using idx_ref hB, a1)
      exact fin
  · have hw : ¬ word = 0 := by simpa using hw
    (wp_walk using Ok_ok)
    refine Al_lst fun k1 s1 _ h1 f1 => ?_
    (wp_walk using mod_int (i := one) (j := 9) (show (0 : Int) < 9 by decide))
    refine pickL h1 (Int.emod_nonneg _ (by decide)) (Int.emod_lt_of_pos _ (by decide)) fun dm hdm => ?_
    obtain ⟨M, rfl, m1, m9⟩ : ∃ M : Nat, dm = .int (M : Int) ∧ 1 ≤ M ∧ M ≤ 9 := by
      simp only [List.mem_cons, List.not_mem_nil, or_false] at hdm
      rcases hdm with rfl | rfl | rfl | rfl | rfl | rfl | rfl | rfl | rfl
      · exact ⟨1, rfl, by decide, by decide⟩
      · exact ⟨2, rfl, by decide, by decide⟩
      · exact ⟨3, rfl, by decide, by decide⟩
      · exact ⟨4, rfl, by decide, by decide⟩
      · exact ⟨5, rfl, by decide, by decide⟩
      · exact ⟨6, rfl, by decide, by decide⟩
      · exact ⟨6, rfl, by decide, by decide⟩
      · exact ⟨7, rfl, by decide, by decide⟩
      · exact ⟨9, rfl, by decide, by decide⟩
    clear h1 hdm
    (wp_walk using it_rng1 (i := (M : Int)) (s := s1) (by omega))
    refine compAt _ (fun i acc u => u = s1 ∧ acc = ((List.range i).map (nm9 one)).map D.str) ⟨rfl, rfl⟩ (fun _ _ _ _ => Grd_nil) ?_ ?_
    · rintro i d acc u hd ⟨rfl, rfl⟩
      obtain ⟨hi, rfl⟩ := rng_at hd
      have hi : i < M := by omega
      have p1 := Int.emod_nonneg (one / 234 + 3 * (i : Int)) (show (8 : Int) ≠ 0 by decide)
      have p2 := Int.emod_lt_of_pos (one / 234 + 3 * (i : Int)) (show (0 : Int) < 8 by decide)
      have p3 := Int.emod_nonneg (one / 9 + 7 * (i : Int)) (show (26 : Int) ≠ 0 by decide)
      have p4 := Int.emod_lt_of_pos (one / 9 + 7 * (i : Int)) (show (0 : Int) < 26 by decide)
      have e9 : nm9 one i = repS (Str.mk #[97 + ((one / 9 + 7 * (i : Int)) % 26).toNat]) (1 + (one / 234 + 3 * (i : Int)) % 8) := rep_one.symm
      rw [List.range_succ, List.map_append, List.map_append, List.map_singleton, List.map_singleton, e9]
      obtain ⟨ii, hii⟩ : ∃ ii : Int, ii = (i : Int) := ⟨_, rfl⟩
      refine ⟨by simp; omega, _, rfl, ?_⟩
      rw [← hii] at p1 p2 p3 p4 ⊢
      obtain ⟨r, hr⟩ : ∃ r : Nat, (one / 9 + 7 * ii) % 26 = (r : Int) := ⟨_, (Int.toNat_of_nonneg p3).symm⟩
      obtain ⟨q, hq9⟩ : ∃ q : Int, (one / 234 + 3 * ii) % 8 = q := ⟨_, rfl⟩
      have ai : atI ("abcdefghijklmnopqrstuvwxyz" : Str).cps.toList (r : Int) = some (97 + r) := atI_of r (abc_at (by omega))
      rw [hq9] at p1 p2 ⊢
      rw [hr, Int.toNat_natCast]
      (wp_walk using fdiv_int (i := one) (j := 9) (s := u) (by decide) (by decide), mul_intL (i := 7) (j := ii) (s := u) (by decide), mod_int (i := one / 9 + 7 * ii) (j := 26) (s := u) (by decide), fdiv_int (i := one) (j := 234) (s := u) (by decide) (by decide), mul_intL (i := 3) (j := ii) (s := u) (by decide), mod_int (i := one / 234 + 3 * ii) (j := 8) (s := u) (by decide), hr, hq9, idx_str (x := "abcdefghijklmnopqrstuvwxyz") (i := (r : Int)) (s := u) (by decide), ai)
      (wp_walk using mul_str (x := Str.mk #[97 + r]) (k := 1 + q) (s := u) ⟨by omega, show (1 : Nat) ≤ 1000 by decide⟩)
      exact ⟨fun _ => trivial, fun h => nomatch h⟩
    rintro acc u ⟨rfl, rfl⟩
    rw [rng_len, Int.toNat_natCast]
    (wp_walk using Ok_ok)
    refine Al_lst fun kn s2 hkn hN f2 => ?_
    obtain ⟨ld, hld⟩ : ∃ ld : Nat, (one / 1872) % (M : Int) = (ld : Int) := ⟨_, (Int.toNat_of_nonneg (Int.emod_nonneg _ (by omega))).symm⟩
    have hlM : ld < M := by have := Int.emod_lt_of_pos (one / 1872) (show (0 : Int) < (M : Int) by omega); omega
    obtain ⟨b9, hb9⟩ : ∃ b9 : Bool, ((one / 16848) % 6 == 1) = b9 := ⟨_, rfl⟩
    (wp_walk using fdiv_int (i := one) (j := 1872) (s := s2) (by decide) (by decide), mod_int (i := one / 1872) (j := (M : Int)) (s := s2) (by omega), hld)
    (wp_walk using fdiv_int (i := one) (j := 16848) (s := s2) (by decide) (by decide), mod_int (i := one / 16848) (j := 6) (s := s2) (by decide), hb9)
    rw [kAnd_val64 (r := decide (1 < (M : Int))) (by (wp_walk using Ok_ok))]
    obtain ⟨tw, htw⟩ : ∃ tw : Bool, (b9 && decide (1 < (M : Int))) = tw := ⟨_, rfl⟩
    rw [htw]
    have tw2 : tw = true → 2 ≤ M := fun e => by
      rw [e, Bool.and_eq_true, decide_eq_true_eq] at htw
      omega
    have f12 := f1.trans f2
    have nd0 := nm9_nd (one := one) m9
    (wp_walk using Ok_ok)
    refine kIf_mid (fun e t => ∃ N : List Str, e = [some (.tup [.str (mkS c), kdIf g (.tup ds9)]), some (.int word), some (.int one), some (.str (mkS c)), some (kdIf g (.tup ds9)), some (.str "abcdefghijklmnopqrstuvwxyz"), some (.int (M : Int)), some (.ref kn), some (.int (ld : Int)), some (.bl tw), none, none, none, none, none] ∧ N.length = M ∧ (∀ x ∈ N, Nm x) ∧ decide N.Nodup = !tw ∧ lsAt t kn = some (N.map D.str) ∧ Fr [] s t) ?_ ?_
    · refine kIf_split (fun ht => ?_) (fun ht => ?_)
      · have hM2 := tw2 ht
        have hgt : ((List.range M).map (nm9 one))[ld]? = some (nm9 one ld) := by rw [List.getElem?_map, List.getElem?_range hlM]; rfl
        have ai : atI (((List.range M).map (nm9 one)).map D.str) (ld : Int) = some (.str (nm9 one ld)) := atI_of ld (by rw [List.getElem?_map, hgt]; rfl)
        obtain ⟨px, hpx, px1, px2⟩ : ∃ px : Nat, ixN (((List.range M).map (nm9 one)).map D.str).length ((ld : Int) - 1) = some px ∧ px < M ∧ px ≠ ld := by
          rw [List.length_map, List.length_map, List.length_range]
          cases ld with
          | zero => exact ⟨M - 1, by rw [show ((0 : Nat) : Int) - 1 = -1 from rfl]; exact ixN_m1 m1, by omega, by omega⟩
          | succ q => exact ⟨q, by rw [show ((q + 1 : Nat) : Int) - 1 = (q : Int) by omega]; exact ixN_pos (by omega), by omega, by omega⟩
        (wp_walk using idx_ref hN, ai)
        rw [kSub3_ref hN, hpx]
        refine ⟨((List.range M).map (nm9 one)).set px (nm9 one ld), ?_⟩
        refine ⟨rfl, by simp, fun x hx => ?_, ?_, by rw [List.map_set]; exact lsAt_set hN, f12.new (by have := f1.len; omega)⟩
        · rcases List.mem_or_eq_of_mem_set hx with hx | rfl
          · obtain ⟨j, _, rfl⟩ := List.mem_map.mp hx
            exact nm9_nm
          · exact nm9_nm
        · rw [ht, decide_eq_false]
          · rfl
          · intro nd
            have e1 : (((List.range M).map (nm9 one)).set px (nm9 one ld))[px]? = some (nm9 one ld) := List.getElem?_set_self (by simpa using px1)
            have e2 : (((List.range M).map (nm9 one)).set px (nm9 one ld))[ld]? = some (nm9 one ld) := by rw [List.getElem?_set_ne px2]; exact hgt
            exact px2 ((List.getElem?_inj (by simpa using px1) nd).mp (e1.trans e2.symm))
      · (wp_walk using Ok_ok)
        refine ⟨_, by simp, fun x hx => ?_, ?_, hN, f12⟩
        · obtain ⟨j, _, rfl⟩ := List.mem_map.mp hx
          exact nm9_nm
        · rw [ht, decide_eq_true nd0]; rfl
    clear hN f1 f2 f12 nd0 hkn
    rintro e0 u ⟨N, rfl, hNl, hNm, hNd, hN, fu⟩
    have hlN : ld < N.length := by omega
    have aN : ∀ {i : Nat} {t : S}, i < N.length → atI (N.map D.str) (i : Int) = some (.str (N.getD i "")) := fun {i t} hi => atI_of i (by
      rw [List.getElem?_map, List.getElem?_eq_getElem hi, List.getD_eq_getElem?_getD, List.getElem?_eq_getElem hi]; rfl)
    have nmL : ∀ i, i < N.length → (cd (N.getD i "")).length ≤ 8 := fun i hi => by
      rw [List.getD_eq_getElem?_getD, List.getElem?_eq_getElem hi]
      exact (hNm _ (List.getElem_mem hi)).le
    (wp_walk using it_rng1 (i := (M : Int)) (s := u) (by omega))
    refine compAt _ (fun i acc t => t = u ∧ acc = (List.range i).map fun j => D.str (mkS (itC (itJ N j)))) ⟨rfl, rfl⟩ (fun _ _ _ _ => Grd_nil) ?_ ?_
    · rintro i d acc t hd ⟨rfl, rfl⟩
      obtain ⟨hi, rfl⟩ := rng_at hd
      have hi : i < N.length := by omega
      have hn8 := nmL i hi
      have e9 : itC (itJ N i) = cd (N.getD i "") ++ cd " num " ++ [48 + (1 + ((i : Int) % 4)).toNat] := by
        unfold itC itJ
        rw [show cd " num " = 32 :: cd "num " from rfl]
        simp
      rw [List.range_succ, List.map_append, List.map_singleton, e9]
      refine ⟨by simp; omega, _, rfl, ?_⟩
      have p1 := Int.emod_nonneg (i : Int) (show (4 : Int) ≠ 0 by decide)
      have p2 := Int.emod_lt_of_pos (i : Int) (show (0 : Int) < 4 by decide)
      (wp_walk using idx_ref hN, aN (t := t) hi, mod_int (i := (i : Int)) (j := 4) (s := t) (by decide), add_mk (x := N.getD i "") (y := " num ") (l := cd (N.getD i "")) (m := cd " num ") (s := t) rfl rfl (by rw [show (cd " num ").length = 5 from rfl]; omega), str_fig (w := 1 + (i : Int) % 4) (s := t) (by omega) (by omega))
      refine ⟨fun _ => ?_, fun h => nomatch h⟩
      (wp_walk using add_mk (x := mkS (cd (N.getD i "") ++ cd " num ")) (y := mkS [48 + (1 + (i : Int) % 4).toNat]) (l := cd (N.getD i "") ++ cd " num ") (m := [48 + (1 + (i : Int) % 4).toNat]) (s := t) cd_mkS cd_mkS (by rw [List.length_append, show (cd " num ").length = 5 from rfl, List.length_singleton]; omega))
    rintro acc t ⟨rfl, rfl⟩
    rw [rng_len, Int.toNat_natCast]
    (wp_walk using Ok_ok)
    refine Al_lst fun kp s3 hkp hP f3 => ?_
    have hnlt := lsAt_lt hN
    have hN := f3.ls (by simp) hN
    have fu3 := fu.trans f3
    have hcl := nmL ld hlN
    (wp_walk using idx_ref hN, aN (t := s3) hlN, add_mk (x := N.getD ld "") (y := " ") (l := cd (N.getD ld "")) (m := [32]) (s := s3) rfl rfl (by rw [List.length_singleton]; omega))
    (wp_walk using add_mk (x := mkS (cd (N.getD ld "") ++ [32])) (y := mkS c) (l := cd (N.getD ld "") ++ [32]) (m := c) (s := s3) cd_mkS cd_mkS (by rw [List.length_append, List.length_singleton]; omega))
    rw [kSub3_ref hP, ixN_pos (by rw [List.length_map, List.length_range]; exact hlM)]
    have eP : ((List.range M).map fun j => D.str (mkS (itC (itJ N j)))).set ld (.str (mkS (cd (N.getD ld "") ++ [32] ++ c))) = ((itsL N ld c (.tup ds9)).map fun i => mkS (itC i)).map D.str := by
      unfold itsL
      rw [List.map_map, List.map_set, List.map_map, hNl]
      congr 1
      show D.str _ = D.str (mkS (itC _))
      unfold itC
      simp
    dsimp only
    rw [eP]
    have hP3 := lsAt_set (es := ((itsL N ld c (.tup ds9)).map fun i => mkS (itC i)).map D.str) hP
    have hkpn : kn ≠ kp := by omega
    have hkps : s.length ≤ kp := by have := fu.len; omega
    have f4 : Fr [kp] s3 (s3.set kp (.lst (((itsL N ld c (.tup ds9)).map fun i => mkS (itC i)).map D.str))) := Fr.set (by simp)
    have hN4 := f4.ls (by simpa using hkpn) hN
    have fu4 : Fr [] s (s3.set kp (.lst (((itsL N ld c (.tup ds9)).map fun i => mkS (itC i)).map D.str))) := fu3.new hkps
    generalize s3.set kp (.lst (((itsL N ld c (.tup ds9)).map fun i => mkS (itC i)).map D.str)) = s4 at hP3 f4 hN4 fu4 ⊢
    clear hP hN f3 f4 fu3 eP
    (wp_walk using it_rng1 (i := (M : Int)) (s := s4) (by omega))
    refine compAt _ (fun i acc t => t = s4 ∧ acc = (List.range i).map fun j => fld (itF (itJ N j))) ⟨rfl, rfl⟩ (fun _ _ _ _ => Grd_nil) ?_ ?_
    · rintro i d acc t hd ⟨rfl, rfl⟩
      obtain ⟨hi, rfl⟩ := rng_at hd
      have hi : i < N.length := by omega
      rw [List.range_succ, List.map_append, List.map_singleton, show fld (itF (itJ N i)) = .tup [.str (N.getD i ""), .tup [.str "num", .int (1 + (i : Int) % 4)]] from rfl]
      refine ⟨by simp; omega, _, rfl, ?_⟩
      (wp_walk using idx_ref hN4, aN (t := t) hi, mod_int (i := (i : Int)) (j := 4) (s := t) (by decide))
      exact ⟨fun _ => trivial, fun h => nomatch h⟩
    rintro acc t ⟨rfl, rfl⟩
    rw [rng_len, Int.toNat_natCast]
    (wp_walk using Ok_ok)
    refine Al_lst fun kf s5 hkf hF f5 => ?_
    have hpl := lsAt_lt hP3
    have hN5 := f5.ls (by simp) hN4
    have hP5 := f5.ls (by simp) hP3
    have fu5 := fu4.trans f5
    (wp_walk using idx_ref hN5, aN (t := s5) hlN)
    rw [kSub3_ref hF, ixN_pos (by rw [List.length_map, List.length_range]; exact hlM)]
    dsimp only
    obtain ⟨FL, hFL⟩ : ∃ FL, FL = ((List.range M).map fun j => fld (itF (itJ N j))).set ld (.tup [.str (N.getD ld ""), kdIf g (.tup ds9)]) := ⟨_, rfl⟩
    rw [← hFL]
    have hF6 := lsAt_set (es := FL) hF
    have f6 : Fr [kf] s5 (s5.set kf (.lst FL)) := Fr.set (by simp)
    have hkpf : kp ≠ kf := by omega
    have hP6 := f6.ls (by simpa using hkpf) hP5
    have fu6 : Fr [] s (s5.set kf (.lst FL)) := fu5.new (by have := fu4.len; omega)
    generalize s5.set kf (.lst FL) = s6 at hF6 f6 hP6 fu6 ⊢
    clear hF hN5 hP5 fu5 f5 f6 hN4 hP3
    (wp_walk using Ok_ok)
    refine Al_lst fun kh s7 _ hH f7 => ?_
    have hF7 := f7.ls (by simp) hF6
    have hP7 := f7.ls (by simp) hP6
    have fu7 := fu6.trans f7
    obtain ⟨w0, hw9, ai⟩ : ∃ w0 : Str, (w0 = "rec" ∨ w0 = "pick") ∧ atI [D.str "row", .str "rec", .str "pick"] word = some (.str w0) := by
      rcases (show word = 1 ∨ word = 2 by omega) with rfl | rfl
      · exact ⟨"rec", .inl rfl, rfl⟩
      · exact ⟨"pick", .inr rfl, rfl⟩
    have hlv := lv_its hw9 h hNm hlN
    have hsum := itsL_sum (c := c) (k := .tup ds9) hNm hlN (by omega)
    obtain ⟨g', hg'⟩ : ∃ g', g' = (g && decide (N.length ≤ 6) && decide N.Nodup) := ⟨_, rfl⟩
    rw [← hg'] at hlv
    (wp_walk using idx_ref hH, ai, b_tuple_ref hF7)
    refine kOrT_mid64 (fun e t => e = [some (.tup [.str (mkS c), kdIf g (.tup ds9)]), some (.int word), some (.int one), some (.str (mkS c)), some (kdIf g (.tup ds9)), some (.str "abcdefghijklmnopqrstuvwxyz"), some (.int (M : Int)), some (.ref kn), some (.int (ld : Int)), some (.bl tw), some (.ref kp), some (.ref kf), some (.str w0), some (kdIf g' (.tup [.str w0, .tup (((itsL N ld c (.tup ds9)).map itF).map fld)])), none] ∧ t = s7) ?_ ?_
    · cases g with
      | false =>
        have : g' = false := by rw [hg']; rfl
        subst this
        refine kOrT_split (fun h0 => ?_) (fun h0 => nomatch h0)
        (wp_walk using Ok_ok)
        rfl
      | true =>
        refine kOrT_split (fun h0 => nomatch h0) (fun h0 => ?_)
        (wp_walk using Ok_ok)
        refine kOrT_split (fun h6 => ?_) (fun h6 => ?_)
        · have h6 := of_decide_eq_true h6
          have : g' = false := by rw [hg', decide_eq_false (show ¬ N.length ≤ 6 by omega)]; rfl
          subst this
          (wp_walk using Ok_ok)
          rfl
        · have h6 := of_decide_eq_false h6
          rw [hNd, decide_eq_true (show N.length ≤ 6 by omega)] at hg'
          cases tw with
          | true =>
            have : g' = false := by rw [hg']; rfl
            subst this
            (wp_walk using Ok_ok)
            rfl
          | false =>
            have : g' = true := by rw [hg']; rfl
            subst this
            have eF : FL = ((itsL N ld c (.tup ds9)).map itF).map fld := by
              rw [hFL]
              unfold itsL
              rw [List.map_set, List.map_set, List.map_map, List.map_map, hNl]
              rfl
            rw [← eF]
            (wp_walk using Ok_ok)
            rfl
    rintro e9 t ⟨rfl, rfl⟩
    have hwl : (cd w0).length ≤ 4 := by rcases hw9 with rfl | rfl <;> decide
    have hm : ((itsL N ld c (.tup ds9)).map fun i => mkS (itC i)).map cd = (itsL N ld c (.tup ds9)).map itC := by rw [List.map_map]; exact List.map_congr_left fun f _ => cd_mkS
    have hj := joinC_len ((itsL N ld c (.tup ds9)).map itC)
    (wp_walk using add_mk (x := w0) (y := " (") (l := cd w0) (m := cd " (") (s := t) rfl rfl (by rw [show (cd " (").length = 2 from rfl]; omega), joinR (a := ", ") hP7 (by rw [sum_len_codes, hm]; omega), join_codes, hm)
    (wp_walk using add_mk (x := mkS (cd w0 ++ cd " (")) (l := cd w0 ++ cd " (") (m := joinC ((itsL N ld c (.tup ds9)).map itC)) (s := t) cd_mkS cd_mkS (by rw [List.length_append, show (cd " (").length = 2 from rfl]; omega))
    (wp_walk using add_mk (x := mkS (cd w0 ++ cd " (" ++ joinC ((itsL N ld c (.tup ds9)).map itC))) (y := ")") (l := cd w0 ++ cd " (" ++ joinC ((itsL N ld c (.tup ds9)).map itC)) (m := [41]) (s := t) cd_mkS rfl (by rw [List.length_append, List.length_append, show (cd " (").length = 2 from rfl, List.length_singleton]; omega))
    have := hq _ _ _ t hlv (by simp only [List.length_append, show (cd " (").length = 2 from rfl, List.length_singleton]; omega) fu7
    rw [← List.append_assoc] at this
    exact this
end
/-! K64: the law k64. -/
structure Hd64 (T : Str) (kd pd : D) : Prop where
  k : KdDue (cd T) kd
  p : PpDue (cd T) pd
  xk : Px 18 kd
  xp : Px 18 pd
  len : T.length ≤ 80000
theorem kindP_tup : ∀ {n : Nat} {l r : List Nat} {k : D}, kindP n l = some (k, r) → ∃ ds, k = .tup ds
  | 0, _, _, _, h => by cases h
  | n + 1, l, r, k, h => by
    rw [kindP] at h
    split at h
    · cases h; exact ⟨_, rfl⟩
    · split at h
      · cases h
      · split at h
        · split at h
          · cases h; exact ⟨_, rfl⟩
          · cases h
        · split at h
          · split at h
            · cases h; exact ⟨_, rfl⟩
            · cases h
          · split at h
            · split at h
              · cases h
              · split at h
                · cases h; exact ⟨_, rfl⟩
                · cases h
            · cases h
section
variable {n m d f L : Nat} {c c0 r t : List Nat} {k kd pd : D} {x w T : Str} {g : Bool} {s : S} {Q : D → S → Prop} {X : Nat → S → Prop}
theorem held_ok (hL : 50 ≤ L) (h : Hd64 T kd pd) (hq : ∀ s', Fr [] s s' → Q (.bl true) s') : Ok (callK G L i_l_held [.str T, kd, pd] s) Q X := by
  obtain ⟨K, rfl⟩ : ∃ k, L = k + 1 := ⟨L - 1, by omega⟩
  rw [Ok_call G_l_held]
  unfold d_l_held
  (wp_walk using Ok_ok)
  refine Al_lst fun kl s1 hkl hK f1 => ?_
  (wp_walk using it_ref hK)
  refine loopAt _ (fun i e t => ∃ (x3 x4 x5 x6 : Option D), e = [some (.str T), some kd, some pd, x3, x4, x5, x6] ∧ Fr [] s1 t) ⟨_, _, _, _, rfl, Fr.refl⟩ (fun i e t ⟨_, _, _, _, _, ft⟩ p hp => by rw [List.mem_singleton] at hp; subst hp; exact ft.ls (by simp) hK) ?_ ?_
  · rintro i d e t hd ⟨x3, x4, x5, x6, rfl, ft⟩
    have hi : i < 2 := (List.getElem?_eq_some_iff.mp hd).1
    rcases (show i = 0 ∨ i = 1 by omega) with rfl | rfl
    · have hd : d = .tup [.str "kind", kd] := (Option.some.inj hd).symm
      subst hd
      refine ⟨_, rfl, ?_⟩
      (wp_walk using Ok_ok)
      rcases h.k with ⟨rfl, hno⟩ | ⟨_, hp, hi⟩
      · refine read_kind_any (by omega) h.len (fun k9 s2 h1 h2 f2 => ?_) (fun s2 _ f2 => ?_)
        · have := hno k9 h1
          rw [h2] at this; cases this
        · (wp_walk using trX_ex (show [8].contains 8 = true by decide) (show subX 8 8 = true by decide))
          exact ⟨_, _, _, _, rfl, ft.trans f2⟩
      · obtain ⟨ds, rfl⟩ := kindP_tup hp
        refine read_kind_any (by omega) h.len (fun k9 s2 h1 h2 f2 => ?_) (fun s2 h2 f2 => ?_)
        · rw [hp] at h1
          cases h1
          (wp_walk using Ok_ok)
          refine l_same_v2_ok 18 (by omega) h.xk fun s3 f3 => ?_
          (wp_walk using Ok_ok)
          exact ⟨_, _, _, _, rfl, (ft.trans f2).trans f3⟩
        · have := h2 _ hp
          rw [hi] at this; cases this
    · have hd : d = .tup [.str "paper", pd] := (Option.some.inj hd).symm
      subst hd
      refine ⟨_, rfl, ?_⟩
      (wp_walk using show ((("paper" : Str) == "kind") = false) from by decide)
      rcases h.p with ⟨rfl, hno⟩ | ⟨nm, sd, ps, rr, rfl, hp, hi⟩
      · refine read_paper_any (by omega) h.len (fun nm sd ps rr s2 h1 h2 f2 => ?_) (fun s2 _ f2 => ?_)
        · have := hno nm sd ps rr h1
          rw [h2] at this; cases this
        · (wp_walk using trX_ex (show [8].contains 8 = true by decide) (show subX 8 8 = true by decide))
          exact ⟨_, _, _, _, rfl, ft.trans f2⟩
      · refine read_paper_any (by omega) h.len (fun nm' sd' ps' rr' s2 h1 h2 f2 => ?_) (fun s2 h2 f2 => ?_)
        · rw [hp] at h1
          cases h1
          have hx := h.xp
          unfold papD at hx ⊢
          (wp_walk using Ok_ok)
          refine l_same_v2_ok 18 (by omega) hx fun s3 f3 => ?_
          (wp_walk using Ok_ok)
          exact ⟨_, _, _, _, rfl, (ft.trans f2).trans f3⟩
        · have := h2 _ _ _ _ hp
          rw [hi] at this; cases this
  · rintro e t ⟨x3, x4, x5, x6, rfl, ft⟩
    (wp_walk using Ok_ok)
    exact hq t (f1.trans ft)
/-- a text that is another one at its end -/
inductive Vr9 (c : List Nat) : List Nat → Prop
  | less {c0 : List Nat} : c = c0 ++ [41] → Vr9 c c0
  | more : Vr9 c (c ++ [41])
  | blank : Vr9 c (c ++ [32])
theorem cut_last {x : Str} {c0 : List Nat} {a : Nat} (h : cd x = c0 ++ [a]) : cutS x (some (-1)) none = mkS [a] ∧ cutS x none (some (-1)) = mkS c0 := by
  have hl : x.length = c0.length + 1 := by rw [cd_len, h, List.length_append, List.length_singleton]
  constructor
  · apply cd_inj
    show (((cd x).drop (HT.sIx x.length 0 (some (-1)))).take (HT.sIx x.length x.length none - HT.sIx x.length 0 (some (-1)))) = _
    simp only [HT.sIx, if_pos (show (-1 : Int) < 0 by decide)]
    rw [show ((-1 : Int) + x.length).toNat = c0.length by omega, h, List.drop_left, cd_mkS, List.take_of_length_le (by simp; omega)]
  · apply cd_inj
    show (((cd x).drop (HT.sIx x.length 0 none)).take (HT.sIx x.length x.length (some (-1)) - HT.sIx x.length 0 none)) = _
    simp only [HT.sIx, if_pos (show (-1 : Int) < 0 by decide)]
    rw [show ((-1 : Int) + x.length).toNat - 0 = c0.length by omega, h, cd_mkS, List.drop_zero, List.take_left]
theorem ended64_ok {way : Int} (hL : 1 ≤ L) (hne : c ≠ []) (hc : c.length ≤ 20000) (h1 : ∀ s', Fr [] s s' → Q (.tup [.str (mkS c), .bl true]) s') (h2 : ∀ c1 s', Vr9 c c1 → Fr [] s s' → Q (.tup [.str (mkS c1), .bl false]) s') : Ok (callK G L i_l_ended [.str (mkS c), .int way] s) Q X := by
  obtain ⟨K, rfl⟩ : ∃ k, L = k + 1 := ⟨L - 1, by omega⟩
  obtain ⟨c0, a, rfl⟩ : ∃ c0 a, c = c0 ++ [a] := ⟨_, _, (List.dropLast_concat_getLast hne).symm⟩
  obtain ⟨q1, q2⟩ := cut_last (x := mkS (c0 ++ [a])) (c0 := c0) (a := a) cd_mkS
  have hl : (mkS (c0 ++ [a])).length ≤ 1000000 := by rw [mkS_len]; omega
  rw [Ok_call G_l_ended]
  unfold d_l_ended
  have rest : ∀ t, Fr [] s t → OkS (denB (callK G K) (.cons (.ife (.cmp .eq (.var 1) (.int 6)) (.cons (.ret (.tup (.cons (.bin .add (.var 0) (.str ")")) (.cons (.bl false) .nil)))) .nil) .nil) (.cons (.ife (.cmp .eq (.var 1) (.int 7)) (.cons (.ret (.tup (.cons (.bin .add (.var 0) (.str " ")) (.cons (.bl false) .nil)))) .nil) .nil) (.cons (.ret (.tup (.cons (.var 0) (.cons (.bl true) .nil)))) .nil))) [some (.str (mkS (c0 ++ [a]))), some (.int way)] t) (kN Q) (xR Q X) := fun t ft => by
    (wp_walk using Ok_ok)
    refine kIf_split (fun _ => ?_) (fun _ => ?_)
    · (wp_walk using add_mk (x := mkS (c0 ++ [a])) (y := ")") (l := c0 ++ [a]) (m := [41]) (s := t) cd_mkS rfl (by rw [List.length_singleton]; omega))
      exact h2 _ t .more ft
    · (wp_walk using Ok_ok)
      refine kIf_split (fun _ => ?_) (fun _ => ?_)
      · (wp_walk using add_mk (x := mkS (c0 ++ [a])) (y := " ") (l := c0 ++ [a]) (m := [32]) (s := t) cd_mkS rfl (by rw [List.length_singleton]; omega))
        exact h2 _ t .blank ft
      · (wp_walk using Ok_ok)
        exact h1 t ft
  (wp_walk using Ok_ok)
  refine kAndT_split (fun _ => ?_) (fun _ => ?_)
  · (wp_walk using neg_int, slc_str (x := mkS (c0 ++ [a])) (s := s) hl, q1)
    refine kIf_split (fun h41 => ?_) (fun _ => ?_)
    · have ha : a = 41 := by
        have := congrArg cd (beq_iff_eq.mp h41)
        rw [cd_mkS] at this
        injection this
      subst ha
      (wp_walk using neg_int, slc_str (x := mkS (c0 ++ [41])) (s := s) hl, q2)
      exact h2 _ s (.less rfl) Fr.refl
    · have f0 := rest s Fr.refl
      simp only [S_asl, xUs_rt, S_augs, kAs1_app, E_dsp, kDs1_app, trnX_rt, S_tryn, E_tin, T_tin, kTi2_app, E_tget, kTg1_app, kTg2_app, S_tset, kTs1_app, kTs2_app, T_chn, kCh1_app, kCh2_app, kCh3_true, kCh3_false, E_ccall, b_min3, kw_num_text, kw_num_row, kw_num_rec, kw_num_pick, kw_text_num, kw_text_row, kw_text_rec, kw_text_pick, kw_row_num, kw_row_text, kw_row_rec, kw_row_pick, kw_rec_num, kw_rec_text, kw_rec_row, kw_rec_pick, kw_pick_num, kw_pick_text, kw_pick_row, kw_pick_rec, S_tryx, kHx_app, kUn_app, xUn_rt, tryX_rt, S_try2, try2X_rt, S_seta, kSa1_app, S_auga, E_isx, isx_non, E_attr, E_mcall, kMc2_app, E_new, kNew_app, kNi_app, kNw_non, trX_rt, S_raise, S_tryc, S_aug, kAugE_app, kAug_add, kAug_sub, Ok_ok, Ok_ex, OkS_nx, OkS_rt, kX_app, kN_app, xR_rt, xR_ex, kB_app, B_nil, B_cons, kSet_app, S_set, S_setc, S_asg, kAsg_2, kAsg_3, kAsg_4, S_sub, kSub1_app, kSub2_app, kSub3_app, kExp_app, S_exp, S_ret, S_retn, S_pas, S_brk, S_cnt, kIf_true, kIf_false, S_ife, S_for, kFor_app, S_whl, kTb_app, kC1_app, kC2_app, T_cmp, T_val, kNotT_app, T_not, kAndT_true, kAndT_false, T_and, kOrT_true, kOrT_false, T_or, T_one, E_var, E_non, E_bl, E_int, E_str, E_conI, E_conS, k1_app, E_neg, kO1_app, kO2_app, E_bin, E_cmp, E_idx, kAnd_true, kAnd_false, kOr_true, kOr_false, E_and, E_or, E_one, kNot_app, E_not, kIte_true, kIte_false, E_ite, kA1_app, kA2_app, A_nil, A_cons, kTup_app, kLst_app, E_tup, E_lst, E_dk, E_dt, kO_app, O_none, O_some, kS1_app, kS2_app, kS3_app, E_slc, E_rev, E_nset, E_lrg1, E_lrg2, E_lzip, kLz_app, kCall_app, E_call, kBlt_app, E_blt, E_isi, kM_upper, kM_split, kM_sidx, kM_join, kM2_app, E_mth, kW_app, kWs_app, W_seq, W_rng1, W_rng2, W_rng3, W_enum, W_zip, it_tup, it_rol, it_str, kLc_app, kAcc_app, E_lc, C_none, C_some, zs_tup, zs_rol, R.of_some, R.of_none, idx_tup, idx_rol, atI_0, atI_1, atI_2, atI_3, atI_4, atI_5, atI_6, atI_7, Option.map_some, bop_add, bop_sub, bop_mul, bop_fdiv, bop_mod, bop_pow, add_int, sub_int, neg_int, lt_int, le_int, gt_int, ge_int, eq_any, ne_any, is_any, isn_any, in_any, nin_any, bOf_some, is_non, isn_non, is_bl, eq_int, eq_str, eq_bl, eq_nn, eq_tupstr, eq_strtup, len_tup, len_rol, ok_list_tup, b_tuple_tup, b_max2, b_min2, b_int_bl, b_int_int, isi_non, isi_bl, isi_int, isi_str, isi_tup, isi_rol, rcv_str, isT, isNon, slc_tup, rev_tup, Mth.ty, wipeE, len_ns, len_cs, G_nm, Gs_nil, Gs_cons, Option.bind_some, List.set_cons_zero, List.set_cons_succ, List.map_cons, List.map_nil, List.length_cons, List.length_nil, List.replicate_succ, List.replicate_zero, List.cons_append, List.nil_append, List.append_nil, ix10, ix20, ix21, ix30, ix31, ix32, List.set_set, decide_true, decide_false, Bool.not_true, Bool.not_false, Nat.reduceSub, Nat.reduceAdd, Nat.reduceLeDiff, Int.cast_ofNat_Int, Int.natCast_zero, Int.natCast_one, Int.reduceBEq, Int.reduceLT, Int.reduceLE, Int.reduceAdd, Int.reduceSub, Int.reduceMul, Int.reduceNeg, Int.reduceDiv, Int.reduceMod, Int.zero_add, beq_self_eq_true, true_and, and_true, and_self, gV_0, gV_1, gV_2, gV_3, gV_4, gV_5, gV_6, gV_7, gV_8, gV_9, gV_10, gV_11, gV_12, gV_13, gV_14, gV_15, gV_16, gV_17, gV_18, gV_19, gV_20, gV_21, gV_22, gV_23] at f0
      (wp_walk using Ok_ok)
      exact f0
  · have f0 := rest s Fr.refl
    simp only [S_asl, xUs_rt, S_augs, kAs1_app, E_dsp, kDs1_app, trnX_rt, S_tryn, E_tin, T_tin, kTi2_app, E_tget, kTg1_app, kTg2_app, S_tset, kTs1_app, kTs2_app, T_chn, kCh1_app, kCh2_app, kCh3_true, kCh3_false, E_ccall, b_min3, kw_num_text, kw_num_row, kw_num_rec, kw_num_pick, kw_text_num, kw_text_row, kw_text_rec, kw_text_pick, kw_row_num, kw_row_text, kw_row_rec, kw_row_pick, kw_rec_num, kw_rec_text, kw_rec_row, kw_rec_pick, kw_pick_num, kw_pick_text, kw_pick_row, kw_pick_rec, S_tryx, kHx_app, kUn_app, xUn_rt, tryX_rt, S_try2, try2X_rt, S_seta, kSa1_app, S_auga, E_isx, isx_non, E_attr, E_mcall, kMc2_app, E_new, kNew_app, kNi_app, kNw_non, trX_rt, S_raise, S_tryc, S_aug, kAugE_app, kAug_add, kAug_sub, Ok_ok, Ok_ex, OkS_nx, OkS_rt, kX_app, kN_app, xR_rt, xR_ex, kB_app, B_nil, B_cons, kSet_app, S_set, S_setc, S_asg, kAsg_2, kAsg_3, kAsg_4, S_sub, kSub1_app, kSub2_app, kSub3_app, kExp_app, S_exp, S_ret, S_retn, S_pas, S_brk, S_cnt, kIf_true, kIf_false, S_ife, S_for, kFor_app, S_whl, kTb_app, kC1_app, kC2_app, T_cmp, T_val, kNotT_app, T_not, kAndT_true, kAndT_false, T_and, kOrT_true, kOrT_false, T_or, T_one, E_var, E_non, E_bl, E_int, E_str, E_conI, E_conS, k1_app, E_neg, kO1_app, kO2_app, E_bin, E_cmp, E_idx, kAnd_true, kAnd_false, kOr_true, kOr_false, E_and, E_or, E_one, kNot_app, E_not, kIte_true, kIte_false, E_ite, kA1_app, kA2_app, A_nil, A_cons, kTup_app, kLst_app, E_tup, E_lst, E_dk, E_dt, kO_app, O_none, O_some, kS1_app, kS2_app, kS3_app, E_slc, E_rev, E_nset, E_lrg1, E_lrg2, E_lzip, kLz_app, kCall_app, E_call, kBlt_app, E_blt, E_isi, kM_upper, kM_split, kM_sidx, kM_join, kM2_app, E_mth, kW_app, kWs_app, W_seq, W_rng1, W_rng2, W_rng3, W_enum, W_zip, it_tup, it_rol, it_str, kLc_app, kAcc_app, E_lc, C_none, C_some, zs_tup, zs_rol, R.of_some, R.of_none, idx_tup, idx_rol, atI_0, atI_1, atI_2, atI_3, atI_4, atI_5, atI_6, atI_7, Option.map_some, bop_add, bop_sub, bop_mul, bop_fdiv, bop_mod, bop_pow, add_int, sub_int, neg_int, lt_int, le_int, gt_int, ge_int, eq_any, ne_any, is_any, isn_any, in_any, nin_any, bOf_some, is_non, isn_non, is_bl, eq_int, eq_str, eq_bl, eq_nn, eq_tupstr, eq_strtup, len_tup, len_rol, ok_list_tup, b_tuple_tup, b_max2, b_min2, b_int_bl, b_int_int, isi_non, isi_bl, isi_int, isi_str, isi_tup, isi_rol, rcv_str, isT, isNon, slc_tup, rev_tup, Mth.ty, wipeE, len_ns, len_cs, G_nm, Gs_nil, Gs_cons, Option.bind_some, List.set_cons_zero, List.set_cons_succ, List.map_cons, List.map_nil, List.length_cons, List.length_nil, List.replicate_succ, List.replicate_zero, List.cons_append, List.nil_append, List.append_nil, ix10, ix20, ix21, ix30, ix31, ix32, List.set_set, decide_true, decide_false, Bool.not_true, Bool.not_false, Nat.reduceSub, Nat.reduceAdd, Nat.reduceLeDiff, Int.cast_ofNat_Int, Int.natCast_zero, Int.natCast_one, Int.reduceBEq, Int.reduceLT, Int.reduceLE, Int.reduceAdd, Int.reduceSub, Int.reduceMul, Int.reduceNeg, Int.reduceDiv, Int.reduceMod, Int.zero_add, beq_self_eq_true, true_and, and_true, and_self, gV_0, gV_1, gV_2, gV_3, gV_4, gV_5, gV_6, gV_7, gV_8, gV_9, gV_10, gV_11, gV_12, gV_13, gV_14, gV_15, gV_16, gV_17, gV_18, gV_19, gV_20, gV_21, gV_22, gV_23] at f0
    (wp_walk using Ok_ok)
    exact f0
theorem repS_mk {z : Int} : repS x z = mkS (rep9 z.toNat (cd x)) := rfl
theorem rep9_len {h : List Nat} : (rep9 m h).length = m * h.length := by
  induction m with
  | zero => simp [rep9]
  | succ m ih => rw [rep9_succ, List.length_append, ih, Nat.succ_mul]; omega
/-- a deep text, or one of many fields of one name -/
def Dp64 (l : List Nat) : Prop := l.length ≤ 60000 ∧ ((kindP 5 l = none ∧ ∃ a t, l = a :: t ∧ (a = 112 ∨ a = 114)) ∨ ∃ d k, d ≤ 3 ∧ Lv d l k false)
theorem px_non : Px 18 .non := .non
theorem dp_kind {l : List Nat} (h : Dp64 l) : Hd64 (mkS l) .non .non := by
  obtain ⟨hl, ⟨h1, a, t, rfl, h2⟩ | ⟨d, k, hd, h1⟩⟩ := h
  · exact ⟨by rw [cd_mkS]; exact .no h1, by rw [cd_mkS]; exact paper_no (by omega), .non, .non, by rw [mkS_len]; omega⟩
  · refine ⟨by rw [cd_mkS]; exact kd_whole h1, ?_, .non, .non, by rw [mkS_len]; omega⟩
    have := pp_kind (r := []) h1
    rw [List.append_nil] at this
    rw [cd_mkS]; exact this
theorem dp_res {l : List Nat} (h : Dp64 l) : Hd64 (mkS (cd "door a 0 () " ++ l)) .non .non := by
  obtain ⟨hl, h9⟩ := h
  have e : cd "door a 0 () " ++ l = resT "a" 0 l := rfl
  refine ⟨?_, ?_, .non, .non, by rw [mkS_len, List.length_append, show (cd "door a 0 () ").length = 12 from rfl]; omega⟩
  · rw [cd_mkS, e]; exact door_no
  · rw [cd_mkS, e]
    rcases h9 with ⟨h1, a, t, rfl, h2⟩ | ⟨d, k, hd, h1⟩
    · refine res_no nm_a (.inl rfl) (fun q => ?_) (.inl h1)
      injection q with q _
      have q : a = 110 := q
      omega
    · exact res_whole nm_a (.inl rfl) h1
theorem dp_plc {l : List Nat} (h : Dp64 l) : Hd64 (mkS (cd "door a 0 (b give " ++ l)) .non .non := by
  obtain ⟨hl, h9⟩ := h
  refine ⟨?_, ?_, .non, .non, by rw [mkS_len, List.length_append, show (cd "door a 0 (b give ").length = 17 from rfl]; omega⟩
  · rw [cd_mkS]; exact door_no (r := cd "a 0 (b give " ++ l)
  · rw [cd_mkS]
    refine plc_b ?_
    rcases h9 with ⟨h1, _⟩ | ⟨d, k, hd, h1⟩
    · exact .inl h1
    · have := h1.read 5 [] ends0
      rw [List.append_nil, if_pos (by omega)] at this
      exact .inr ⟨k, this⟩
theorem deep_ok {num : Int} (hL : 1 ≤ L) (hq : ∀ l s', Dp64 l → Fr [] s s' → Q (.str (mkS l)) s') : Ok (callK G L i_l_deep [.int num] s) Q X := by
  obtain ⟨K, rfl⟩ : ∃ k, L = k + 1 := ⟨L - 1, by omega⟩
  have p1 := Int.emod_nonneg (num / 12) (show (1496 : Int) ≠ 0 by decide)
  have p2 := Int.emod_lt_of_pos (num / 12) (show (0 : Int) < 1496 by decide)
  obtain ⟨m, hm⟩ : ∃ m : Nat, 5 + num / 12 % 1496 = (m : Int) := ⟨_, (Int.toNat_of_nonneg (by omega)).symm⟩
  have hm5 : 5 ≤ m := by omega
  have hm2 : m ≤ 1500 := by omega
  have r1 := Int.emod_nonneg num (show (4 : Int) ≠ 0 by decide)
  have r2 := Int.emod_lt_of_pos num (show (0 : Int) < 4 by decide)
  obtain ⟨r, hr⟩ : ∃ r : Int, num % 4 = r := ⟨_, rfl⟩
  rw [hr] at r1 r2
  rw [Ok_call G_l_deep]
  unfold d_l_deep
  (wp_walk using fdiv_int (i := num) (j := 12) (s := s) (by decide) (by decide), mod_int (i := num / 12) (j := 1496) (s := s) (by decide), hm)
  (wp_walk using fdiv_int (i := num) (j := 17952) (s := s) (by decide) (by decide), mod_int (i := num / 17952) (j := 4) (s := s) (by decide))
  refine kIf_split (fun _ => ?_) (fun _ => ?_)
  · (wp_walk using Ok_ok)
    refine Al_lst fun kl s1 _ hB f1 => ?_
    (wp_walk using mod_int (i := num) (j := 4) (s := s1) (by decide), hr)
    have one : ∀ (w h9 : Str), (w = "rec" ∨ w = "pick") → cd h9 = cd w ++ cd " (" → Dp64 (cd h9 ++ rep9 m (cd "a num 1, ") ++ cd "a text" ++ rep9 1 [41]) := fun w h9 hw eh => by
      obtain ⟨k, hk⟩ := lv_many (m := m) hw (by omega)
      rw [eh, show cd w ++ cd " (" ++ rep9 m (cd "a num 1, ") ++ cd "a text" ++ rep9 1 [41] = cd w ++ cd " (" ++ ((rep9 m (cd "a num 1, ") ++ cd "a text") ++ [41]) by simp [rep9]]
      refine ⟨?_, .inr ⟨2, k, by decide, hk⟩⟩
      have hwl : (cd w).length ≤ 4 := by rcases hw with rfl | rfl <;> decide
      simp only [List.length_append, rep9_len, show (cd " (").length = 2 from rfl, show (cd "a num 1, ").length = 9 from rfl, show (cd "a text").length = 6 from rfl, List.length_singleton]
      omega
    have two : Dp64 (cd "rec (a pick (" ++ rep9 m (cd "a num 1, ") ++ cd "a text" ++ rep9 2 [41]) := by
      obtain ⟨k, hk⟩ := lv_many2 (m := m) (by omega)
      rw [show cd "rec (a pick (" ++ rep9 m (cd "a num 1, ") ++ cd "a text" ++ rep9 2 [41] = cd "rec" ++ cd " (" ++ ((cd "a" ++ 32 :: (cd "pick" ++ cd " (" ++ ((rep9 m (cd "a num 1, ") ++ cd "a text") ++ [41]))) ++ [41]) by simp [rep9]; rfl]
      refine ⟨?_, .inr ⟨3, k, by decide, hk⟩⟩
      simp only [List.length_append, List.length_cons, rep9_len, show (cd " (").length = 2 from rfl, show (cd "a num 1, ").length = 9 from rfl, show (cd "a text").length = 6 from rfl, List.length_nil, show (cd "rec").length = 3 from rfl, show (cd "pick").length = 4 from rfl, show (cd "a").length = 1 from rfl]
      omega
    have fin : ∀ (h9 : Str) (q : Nat), (cd h9).length ≤ 20 → q ≤ 2 → (1 : Int) + (if (r == 2) = true then 1 else 0) = (q : Int) → Dp64 (cd h9 ++ rep9 m (cd "a num 1, ") ++ cd "a text" ++ rep9 q [41]) → OkS (denB (callK G K) (.cons (.ret (.bin .add (.bin .add (.bin .add (.var 2) (.bin .mul (.str "a num 1, ") (.var 1))) (.str "a text")) (.bin .mul (.str ")") (.bin .add (.int 1) (.blt .int (.cons (.cmp .eq (.bin .mod (.var 0) (.int 4)) (.int 2)) .nil)))))) .nil) [some (.int num), some (.int (m : Int)), some (.str h9), none] s1) (kN Q) (xR Q X) := fun h9 q hh hq2 hb hd => by
      have e1 : mul2 (.str "a num 1, ") (.int (m : Int)) s1 = some (.str (mkS (rep9 m (cd "a num 1, "))), s1) := mul_str (x := "a num 1, ") (k := (m : Int)) (s := s1) ⟨by omega, by decide⟩
      have e2 : mul2 (.str ")") (.int (q : Int)) s1 = some (.str (mkS (rep9 q [41])), s1) := mul_str (x := ")") (k := (q : Int)) (s := s1) ⟨by omega, by decide⟩
      have l1 : (rep9 m (cd "a num 1, ")).length = m * 9 := rep9_len
      have l2 : (rep9 q [41]).length = q * 1 := rep9_len
      (wp_walk using e1, add_mk (x := h9) (y := mkS (rep9 m (cd "a num 1, "))) (l := cd h9) (m := rep9 m (cd "a num 1, ")) (s := s1) rfl cd_mkS (by omega))
      (wp_walk using add_mk (x := mkS (cd h9 ++ rep9 m (cd "a num 1, "))) (y := "a text") (l := cd h9 ++ rep9 m (cd "a num 1, ")) (m := cd "a text") (s := s1) cd_mkS rfl (by rw [List.length_append, show (cd "a text").length = 6 from rfl]; omega))
      (wp_walk using mod_int (i := num) (j := 4) (s := s1) (by decide), hr, hb, e2)
      (wp_walk using add_mk (x := mkS (cd h9 ++ rep9 m (cd "a num 1, ") ++ cd "a text")) (y := mkS (rep9 q [41])) (l := cd h9 ++ rep9 m (cd "a num 1, ") ++ cd "a text") (m := rep9 q [41]) (s := s1) cd_mkS cd_mkS (by rw [List.length_append, List.length_append, show (cd "a text").length = 6 from rfl]; omega))
      exact hq _ s1 hd f1
    rcases (show r = 0 ∨ r = 1 ∨ r = 2 ∨ r = 3 by omega) with rfl | rfl | rfl | rfl
    · have a0 : atI [D.str "rec (", .str "pick (", .str "rec (a pick (", .str "rec ("] 0 = some (.str "rec (") := rfl
      have f0 := fin "rec (" 1 (by decide) (by decide) (by decide) (one "rec" "rec (" (.inl rfl) rfl)
      simp only [S_asl, xUs_rt, S_augs, kAs1_app, E_dsp, kDs1_app, trnX_rt, S_tryn, E_tin, T_tin, kTi2_app, E_tget, kTg1_app, kTg2_app, S_tset, kTs1_app, kTs2_app, T_chn, kCh1_app, kCh2_app, kCh3_true, kCh3_false, E_ccall, b_min3, kw_num_text, kw_num_row, kw_num_rec, kw_num_pick, kw_text_num, kw_text_row, kw_text_rec, kw_text_pick, kw_row_num, kw_row_text, kw_row_rec, kw_row_pick, kw_rec_num, kw_rec_text, kw_rec_row, kw_rec_pick, kw_pick_num, kw_pick_text, kw_pick_row, kw_pick_rec, S_tryx, kHx_app, kUn_app, xUn_rt, tryX_rt, S_try2, try2X_rt, S_seta, kSa1_app, S_auga, E_isx, isx_non, E_attr, E_mcall, kMc2_app, E_new, kNew_app, kNi_app, kNw_non, trX_rt, S_raise, S_tryc, S_aug, kAugE_app, kAug_add, kAug_sub, Ok_ok, Ok_ex, OkS_nx, OkS_rt, kX_app, kN_app, xR_rt, xR_ex, kB_app, B_nil, B_cons, kSet_app, S_set, S_setc, S_asg, kAsg_2, kAsg_3, kAsg_4, S_sub, kSub1_app, kSub2_app, kSub3_app, kExp_app, S_exp, S_ret, S_retn, S_pas, S_brk, S_cnt, kIf_true, kIf_false, S_ife, S_for, kFor_app, S_whl, kTb_app, kC1_app, kC2_app, T_cmp, T_val, kNotT_app, T_not, kAndT_true, kAndT_false, T_and, kOrT_true, kOrT_false, T_or, T_one, E_var, E_non, E_bl, E_int, E_str, E_conI, E_conS, k1_app, E_neg, kO1_app, kO2_app, E_bin, E_cmp, E_idx, kAnd_true, kAnd_false, kOr_true, kOr_false, E_and, E_or, E_one, kNot_app, E_not, kIte_true, kIte_false, E_ite, kA1_app, kA2_app, A_nil, A_cons, kTup_app, kLst_app, E_tup, E_lst, E_dk, E_dt, kO_app, O_none, O_some, kS1_app, kS2_app, kS3_app, E_slc, E_rev, E_nset, E_lrg1, E_lrg2, E_lzip, kLz_app, kCall_app, E_call, kBlt_app, E_blt, E_isi, kM_upper, kM_split, kM_sidx, kM_join, kM2_app, E_mth, kW_app, kWs_app, W_seq, W_rng1, W_rng2, W_rng3, W_enum, W_zip, it_tup, it_rol, it_str, kLc_app, kAcc_app, E_lc, C_none, C_some, zs_tup, zs_rol, R.of_some, R.of_none, idx_tup, idx_rol, atI_0, atI_1, atI_2, atI_3, atI_4, atI_5, atI_6, atI_7, Option.map_some, bop_add, bop_sub, bop_mul, bop_fdiv, bop_mod, bop_pow, add_int, sub_int, neg_int, lt_int, le_int, gt_int, ge_int, eq_any, ne_any, is_any, isn_any, in_any, nin_any, bOf_some, is_non, isn_non, is_bl, eq_int, eq_str, eq_bl, eq_nn, eq_tupstr, eq_strtup, len_tup, len_rol, ok_list_tup, b_tuple_tup, b_max2, b_min2, b_int_bl, b_int_int, isi_non, isi_bl, isi_int, isi_str, isi_tup, isi_rol, rcv_str, isT, isNon, slc_tup, rev_tup, Mth.ty, wipeE, len_ns, len_cs, G_nm, Gs_nil, Gs_cons, Option.bind_some, List.set_cons_zero, List.set_cons_succ, List.map_cons, List.map_nil, List.length_cons, List.length_nil, List.replicate_succ, List.replicate_zero, List.cons_append, List.nil_append, List.append_nil, ix10, ix20, ix21, ix30, ix31, ix32, List.set_set, decide_true, decide_false, Bool.not_true, Bool.not_false, Nat.reduceSub, Nat.reduceAdd, Nat.reduceLeDiff, Int.cast_ofNat_Int, Int.natCast_zero, Int.natCast_one, Int.reduceBEq, Int.reduceLT, Int.reduceLE, Int.reduceAdd, Int.reduceSub, Int.reduceMul, Int.reduceNeg, Int.reduceDiv, Int.reduceMod, Int.zero_add, beq_self_eq_true, true_and, and_true, and_self, gV_0, gV_1, gV_2, gV_3, gV_4, gV_5, gV_6, gV_7, gV_8, gV_9, gV_10, gV_11, gV_12, gV_13, gV_14, gV_15, gV_16, gV_17, gV_18, gV_19, gV_20, gV_21, gV_22, gV_23] at f0
      (wp_walk using idx_ref hB, a0)
      exact f0
    · have a0 : atI [D.str "rec (", .str "pick (", .str "rec (a pick (", .str "rec ("] 1 = some (.str "pick (") := rfl
      have f0 := fin "pick (" 1 (by decide) (by decide) (by decide) (one "pick" "pick (" (.inr rfl) rfl)
      simp only [S_asl, xUs_rt, S_augs, kAs1_app, E_dsp, kDs1_app, trnX_rt, S_tryn, E_tin, T_tin, kTi2_app, E_tget, kTg1_app, kTg2_app, S_tset, kTs1_app, kTs2_app, T_chn, kCh1_app, kCh2_app, kCh3_true, kCh3_false, E_ccall, b_min3, kw_num_text, kw_num_row, kw_num_rec, kw_num_pick, kw_text_num, kw_text_row, kw_text_rec, kw_text_pick, kw_row_num, kw_row_text, kw_row_rec, kw_row_pick, kw_rec_num, kw_rec_text, kw_rec_row, kw_rec_pick, kw_pick_num, kw_pick_text, kw_pick_row, kw_pick_rec, S_tryx, kHx_app, kUn_app, xUn_rt, tryX_rt, S_try2, try2X_rt, S_seta, kSa1_app, S_auga, E_isx, isx_non, E_attr, E_mcall, kMc2_app, E_new, kNew_app, kNi_app, kNw_non, trX_rt, S_raise, S_tryc, S_aug, kAugE_app, kAug_add, kAug_sub, Ok_ok, Ok_ex, OkS_nx, OkS_rt, kX_app, kN_app, xR_rt, xR_ex, kB_app, B_nil, B_cons, kSet_app, S_set, S_setc, S_asg, kAsg_2, kAsg_3, kAsg_4, S_sub, kSub1_app, kSub2_app, kSub3_app, kExp_app, S_exp, S_ret, S_retn, S_pas, S_brk, S_cnt, kIf_true, kIf_false, S_ife, S_for, kFor_app, S_whl, kTb_app, kC1_app, kC2_app, T_cmp, T_val, kNotT_app, T_not, kAndT_true, kAndT_false, T_and, kOrT_true, kOrT_false, T_or, T_one, E_var, E_non, E_bl, E_int, E_str, E_conI, E_conS, k1_app, E_neg, kO1_app, kO2_app, E_bin, E_cmp, E_idx, kAnd_true, kAnd_false, kOr_true, kOr_false, E_and, E_or, E_one, kNot_app, E_not, kIte_true, kIte_false, E_ite, kA1_app, kA2_app, A_nil, A_cons, kTup_app, kLst_app, E_tup, E_lst, E_dk, E_dt, kO_app, O_none, O_some, kS1_app, kS2_app, kS3_app, E_slc, E_rev, E_nset, E_lrg1, E_lrg2, E_lzip, kLz_app, kCall_app, E_call, kBlt_app, E_blt, E_isi, kM_upper, kM_split, kM_sidx, kM_join, kM2_app, E_mth, kW_app, kWs_app, W_seq, W_rng1, W_rng2, W_rng3, W_enum, W_zip, it_tup, it_rol, it_str, kLc_app, kAcc_app, E_lc, C_none, C_some, zs_tup, zs_rol, R.of_some, R.of_none, idx_tup, idx_rol, atI_0, atI_1, atI_2, atI_3, atI_4, atI_5, atI_6, atI_7, Option.map_some, bop_add, bop_sub, bop_mul, bop_fdiv, bop_mod, bop_pow, add_int, sub_int, neg_int, lt_int, le_int, gt_int, ge_int, eq_any, ne_any, is_any, isn_any, in_any, nin_any, bOf_some, is_non, isn_non, is_bl, eq_int, eq_str, eq_bl, eq_nn, eq_tupstr, eq_strtup, len_tup, len_rol, ok_list_tup, b_tuple_tup, b_max2, b_min2, b_int_bl, b_int_int, isi_non, isi_bl, isi_int, isi_str, isi_tup, isi_rol, rcv_str, isT, isNon, slc_tup, rev_tup, Mth.ty, wipeE, len_ns, len_cs, G_nm, Gs_nil, Gs_cons, Option.bind_some, List.set_cons_zero, List.set_cons_succ, List.map_cons, List.map_nil, List.length_cons, List.length_nil, List.replicate_succ, List.replicate_zero, List.cons_append, List.nil_append, List.append_nil, ix10, ix20, ix21, ix30, ix31, ix32, List.set_set, decide_true, decide_false, Bool.not_true, Bool.not_false, Nat.reduceSub, Nat.reduceAdd, Nat.reduceLeDiff, Int.cast_ofNat_Int, Int.natCast_zero, Int.natCast_one, Int.reduceBEq, Int.reduceLT, Int.reduceLE, Int.reduceAdd, Int.reduceSub, Int.reduceMul, Int.reduceNeg, Int.reduceDiv, Int.reduceMod, Int.zero_add, beq_self_eq_true, true_and, and_true, and_self, gV_0, gV_1, gV_2, gV_3, gV_4, gV_5, gV_6, gV_7, gV_8, gV_9, gV_10, gV_11, gV_12, gV_13, gV_14, gV_15, gV_16, gV_17, gV_18, gV_19, gV_20, gV_21, gV_22, gV_23] at f0
      (wp_walk using idx_ref hB, a0)
      exact f0
    · have a0 : atI [D.str "rec (", .str "pick (", .str "rec (a pick (", .str "rec ("] 2 = some (.str "rec (a pick (") := rfl
      have f0 := fin "rec (a pick (" 2 (by decide) (by decide) (by decide) two
      simp only [S_asl, xUs_rt, S_augs, kAs1_app, E_dsp, kDs1_app, trnX_rt, S_tryn, E_tin, T_tin, kTi2_app, E_tget, kTg1_app, kTg2_app, S_tset, kTs1_app, kTs2_app, T_chn, kCh1_app, kCh2_app, kCh3_true, kCh3_false, E_ccall, b_min3, kw_num_text, kw_num_row, kw_num_rec, kw_num_pick, kw_text_num, kw_text_row, kw_text_rec, kw_text_pick, kw_row_num, kw_row_text, kw_row_rec, kw_row_pick, kw_rec_num, kw_rec_text, kw_rec_row, kw_rec_pick, kw_pick_num, kw_pick_text, kw_pick_row, kw_pick_rec, S_tryx, kHx_app, kUn_app, xUn_rt, tryX_rt, S_try2, try2X_rt, S_seta, kSa1_app, S_auga, E_isx, isx_non, E_attr, E_mcall, kMc2_app, E_new, kNew_app, kNi_app, kNw_non, trX_rt, S_raise, S_tryc, S_aug, kAugE_app, kAug_add, kAug_sub, Ok_ok, Ok_ex, OkS_nx, OkS_rt, kX_app, kN_app, xR_rt, xR_ex, kB_app, B_nil, B_cons, kSet_app, S_set, S_setc, S_asg, kAsg_2, kAsg_3, kAsg_4, S_sub, kSub1_app, kSub2_app, kSub3_app, kExp_app, S_exp, S_ret, S_retn, S_pas, S_brk, S_cnt, kIf_true, kIf_false, S_ife, S_for, kFor_app, S_whl, kTb_app, kC1_app, kC2_app, T_cmp, T_val, kNotT_app, T_not, kAndT_true, kAndT_false, T_and, kOrT_true, kOrT_false, T_or, T_one, E_var, E_non, E_bl, E_int, E_str, E_conI, E_conS, k1_app, E_neg, kO1_app, kO2_app, E_bin, E_cmp, E_idx, kAnd_true, kAnd_false, kOr_true, kOr_false, E_and, E_or, E_one, kNot_app, E_not, kIte_true, kIte_false, E_ite, kA1_app, kA2_app, A_nil, A_cons, kTup_app, kLst_app, E_tup, E_lst, E_dk, E_dt, kO_app, O_none, O_some, kS1_app, kS2_app, kS3_app, E_slc, E_rev, E_nset, E_lrg1, E_lrg2, E_lzip, kLz_app, kCall_app, E_call, kBlt_app, E_blt, E_isi, kM_upper, kM_split, kM_sidx, kM_join, kM2_app, E_mth, kW_app, kWs_app, W_seq, W_rng1, W_rng2, W_rng3, W_enum, W_zip, it_tup, it_rol, it_str, kLc_app, kAcc_app, E_lc, C_none, C_some, zs_tup, zs_rol, R.of_some, R.of_none, idx_tup, idx_rol, atI_0, atI_1, atI_2, atI_3, atI_4, atI_5, atI_6, atI_7, Option.map_some, bop_add, bop_sub, bop_mul, bop_fdiv, bop_mod, bop_pow, add_int, sub_int, neg_int, lt_int, le_int, gt_int, ge_int, eq_any, ne_any, is_any, isn_any, in_any, nin_any, bOf_some, is_non, isn_non, is_bl, eq_int, eq_str, eq_bl, eq_nn, eq_tupstr, eq_strtup, len_tup, len_rol, ok_list_tup, b_tuple_tup, b_max2, b_min2, b_int_bl, b_int_int, isi_non, isi_bl, isi_int, isi_str, isi_tup, isi_rol, rcv_str, isT, isNon, slc_tup, rev_tup, Mth.ty, wipeE, len_ns, len_cs, G_nm, Gs_nil, Gs_cons, Option.bind_some, List.set_cons_zero, List.set_cons_succ, List.map_cons, List.map_nil, List.length_cons, List.length_nil, List.replicate_succ, List.replicate_zero, List.cons_append, List.nil_append, List.append_nil, ix10, ix20, ix21, ix30, ix31, ix32, List.set_set, decide_true, decide_false, Bool.not_true, Bool.not_false, Nat.reduceSub, Nat.reduceAdd, Nat.reduceLeDiff, Int.cast_ofNat_Int, Int.natCast_zero, Int.natCast_one, Int.reduceBEq, Int.reduceLT, Int.reduceLE, Int.reduceAdd, Int.reduceSub, Int.reduceMul, Int.reduceNeg, Int.reduceDiv, Int.reduceMod, Int.zero_add, beq_self_eq_true, true_and, and_true, and_self, gV_0, gV_1, gV_2, gV_3, gV_4, gV_5, gV_6, gV_7, gV_8, gV_9, gV_10, gV_11, gV_12, gV_13, gV_14, gV_15, gV_16, gV_17, gV_18, gV_19, gV_20, gV_21, gV_22, gV_23] at f0
      (wp_walk using idx_ref hB, a0)
      exact f0
    · have a0 : atI [D.str "rec (", .str "pick (", .str "rec (a pick (", .str "rec ("] 3 = some (.str "rec (") := rfl
      have f0 := fin "rec (" 1 (by decide) (by decide) (by decide) (one "rec" "rec (" (.inl rfl) rfl)
      simp only [S_asl, xUs_rt, S_augs, kAs1_app, E_dsp, kDs1_app, trnX_rt, S_tryn, E_tin, T_tin, kTi2_app, E_tget, kTg1_app, kTg2_app, S_tset, kTs1_app, kTs2_app, T_chn, kCh1_app, kCh2_app, kCh3_true, kCh3_false, E_ccall, b_min3, kw_num_text, kw_num_row, kw_num_rec, kw_num_pick, kw_text_num, kw_text_row, kw_text_rec, kw_text_pick, kw_row_num, kw_row_text, kw_row_rec, kw_row_pick, kw_rec_num, kw_rec_text, kw_rec_row, kw_rec_pick, kw_pick_num, kw_pick_text, kw_pick_row, kw_pick_rec, S_tryx, kHx_app, kUn_app, xUn_rt, tryX_rt, S_try2, try2X_rt, S_seta, kSa1_app, S_auga, E_isx, isx_non, E_attr, E_mcall, kMc2_app, E_new, kNew_app, kNi_app, kNw_non, trX_rt, S_raise, S_tryc, S_aug, kAugE_app, kAug_add, kAug_sub, Ok_ok, Ok_ex, OkS_nx, OkS_rt, kX_app, kN_app, xR_rt, xR_ex, kB_app, B_nil, B_cons, kSet_app, S_set, S_setc, S_asg, kAsg_2, kAsg_3, kAsg_4, S_sub, kSub1_app, kSub2_app, kSub3_app, kExp_app, S_exp, S_ret, S_retn, S_pas, S_brk, S_cnt, kIf_true, kIf_false, S_ife, S_for, kFor_app, S_whl, kTb_app, kC1_app, kC2_app, T_cmp, T_val, kNotT_app, T_not, kAndT_true, kAndT_false, T_and, kOrT_true, kOrT_false, T_or, T_one, E_var, E_non, E_bl, E_int, E_str, E_conI, E_conS, k1_app, E_neg, kO1_app, kO2_app, E_bin, E_cmp, E_idx, kAnd_true, kAnd_false, kOr_true, kOr_false, E_and, E_or, E_one, kNot_app, E_not, kIte_true, kIte_false, E_ite, kA1_app, kA2_app, A_nil, A_cons, kTup_app, kLst_app, E_tup, E_lst, E_dk, E_dt, kO_app, O_none, O_some, kS1_app, kS2_app, kS3_app, E_slc, E_rev, E_nset, E_lrg1, E_lrg2, E_lzip, kLz_app, kCall_app, E_call, kBlt_app, E_blt, E_isi, kM_upper, kM_split, kM_sidx, kM_join, kM2_app, E_mth, kW_app, kWs_app, W_seq, W_rng1, W_rng2, W_rng3, W_enum, W_zip, it_tup, it_rol, it_str, kLc_app, kAcc_app, E_lc, C_none, C_some, zs_tup, zs_rol, R.of_some, R.of_none, idx_tup, idx_rol, atI_0, atI_1, atI_2, atI_3, atI_4, atI_5, atI_6, atI_7, Option.map_some, bop_add, bop_sub, bop_mul, bop_fdiv, bop_mod, bop_pow, add_int, sub_int, neg_int, lt_int, le_int, gt_int, ge_int, eq_any, ne_any, is_any, isn_any, in_any, nin_any, bOf_some, is_non, isn_non, is_bl, eq_int, eq_str, eq_bl, eq_nn, eq_tupstr, eq_strtup, len_tup, len_rol, ok_list_tup, b_tuple_tup, b_max2, b_min2, b_int_bl, b_int_int, isi_non, isi_bl, isi_int, isi_str, isi_tup, isi_rol, rcv_str, isT, isNon, slc_tup, rev_tup, Mth.ty, wipeE, len_ns, len_cs, G_nm, Gs_nil, Gs_cons, Option.bind_some, List.set_cons_zero, List.set_cons_succ, List.map_cons, List.map_nil, List.length_cons, List.length_nil, List.replicate_succ, List.replicate_zero, List.cons_append, List.nil_append, List.append_nil, ix10, ix20, ix21, ix30, ix31, ix32, List.set_set, decide_true, decide_false, Bool.not_true, Bool.not_false, Nat.reduceSub, Nat.reduceAdd, Nat.reduceLeDiff, Int.cast_ofNat_Int, Int.natCast_zero, Int.natCast_one, Int.reduceBEq, Int.reduceLT, Int.reduceLE, Int.reduceAdd, Int.reduceSub, Int.reduceMul, Int.reduceNeg, Int.reduceDiv, Int.reduceMod, Int.zero_add, beq_self_eq_true, true_and, and_true, and_self, gV_0, gV_1, gV_2, gV_3, gV_4, gV_5, gV_6, gV_7, gV_8, gV_9, gV_10, gV_11, gV_12, gV_13, gV_14, gV_15, gV_16, gV_17, gV_18, gV_19, gV_20, gV_21, gV_22, gV_23] at f0
      (wp_walk using idx_ref hB, a0)
      exact f0
  · (wp_walk using Ok_ok)
    refine Al_lst fun kl s1 _ hB f1 => ?_
    (wp_walk using mod_int (i := num) (j := 4) (s := s1) (by decide), hr)
    obtain ⟨h9, hh, ai, hno, hhd⟩ : ∃ h9 : Str, (cd h9).length ≤ 16 ∧ atI [D.str "row ", .str "rec (a ", .str "pick (abcdefgh ", .str "rec (a num 1, b "] r = some (.str h9) ∧ (∀ r, kindP 5 (rep9 m (cd h9) ++ r) = none) ∧ ∃ a t, cd h9 = a :: t ∧ (a = 112 ∨ a = 114) := by
      rcases (show r = 0 ∨ r = 1 ∨ r = 2 ∨ r = 3 by omega) with rfl | rfl | rfl | rfl
      · exact ⟨"row ", by decide, rfl, fun r => deep_row 5 m hm5, _, _, rfl, .inr rfl⟩
      · exact ⟨"rec (a ", by decide, rfl, fun r => deep_fs (w := "rec") (x := "a") (.inl rfl) nm_a rfl 5 m hm5, _, _, rfl, .inr rfl⟩
      · exact ⟨"pick (abcdefgh ", by decide, rfl, fun r => deep_fs (w := "pick") (x := "abcdefgh") (.inr rfl) nm_h rfl 5 m hm5, _, _, rfl, .inl rfl⟩
      · exact ⟨"rec (a num 1, b ", by decide, rfl, fun r => deep_b 5 m hm5, _, _, rfl, .inr rfl⟩
    have dp : ∀ r : List Nat, r.length ≤ 30000 → Dp64 (rep9 m (cd h9) ++ r) := fun r hl => by
      obtain ⟨a, t, e, ha⟩ := hhd
      refine ⟨?_, .inl ⟨hno r, a, ?_⟩⟩
      · rw [List.length_append, rep9_len]
        have : m * (cd h9).length ≤ 1500 * 16 := Nat.mul_le_mul hm2 hh
        omega
      · obtain ⟨q, rfl⟩ : ∃ q, m = q + 1 := ⟨m - 1, by omega⟩
        exact ⟨t ++ rep9 q (cd h9) ++ r, by rw [rep9_succ, e]; simp, ha⟩
    have e1 : mul2 (.str h9) (.int (m : Int)) s1 = some (.str (mkS (rep9 m (cd h9))), s1) := mul_str (x := h9) (k := (m : Int)) (s := s1) ⟨by omega, by rw [cd_len]; omega⟩
    have l1 : (rep9 m (cd h9)).length ≤ 1500 * 16 := by rw [rep9_len]; exact Nat.mul_le_mul hm2 hh
    (wp_walk using idx_ref hB, ai, e1, add_mk (x := mkS (rep9 m (cd h9))) (y := "text") (l := rep9 m (cd h9)) (m := cd "text") (s := s1) cd_mkS rfl (by rw [show (cd "text").length = 4 from rfl]; omega))
    (wp_walk using mod_int (i := num) (j := 4) (s := s1) (by decide), hr)
    have rest := dp (cd "text") (by decide)
    refine kAndT_split (fun _ => ?_) (fun _ => ?_)
    · have t1 := Int.emod_nonneg (num / 4) (show (3 : Int) ≠ 0 by decide)
      have t2 := Int.emod_lt_of_pos (num / 4) (show (0 : Int) < 3 by decide)
      (wp_walk using fdiv_int (i := num) (j := 4) (s := s1) (by decide) (by decide), mod_int (i := num / 4) (j := 3) (s := s1) (by decide))
      refine kIf_split (fun _ => ?_) (fun _ => ?_)
      · obtain ⟨q, hq9⟩ : ∃ q : Nat, (m : Int) - num / 4 % 3 + 1 = (q : Int) := ⟨_, (Int.toNat_of_nonneg (by omega)).symm⟩
        have e2 : mul2 (.str ")") (.int (q : Int)) s1 = some (.str (mkS (rep9 q [41])), s1) := mul_str (x := ")") (k := (q : Int)) (s := s1) ⟨by omega, by decide⟩
        have l2 : (rep9 q [41]).length = q * 1 := rep9_len
        (wp_walk using fdiv_int (i := num) (j := 4) (s := s1) (by decide) (by decide), mod_int (i := num / 4) (j := 3) (s := s1) (by decide), hq9, e2, add_mk (x := mkS (rep9 m (cd h9) ++ cd "text")) (y := mkS (rep9 q [41])) (l := rep9 m (cd h9) ++ cd "text") (m := rep9 q [41]) (s := s1) cd_mkS cd_mkS (by rw [List.length_append, show (cd "text").length = 4 from rfl]; omega))
        have := hq _ s1 (dp (cd "text" ++ rep9 q [41]) (by rw [List.length_append, show (cd "text").length = 4 from rfl]; omega)) f1
        rw [← List.append_assoc] at this
        exact this
      · (wp_walk using Ok_ok)
        exact hq _ s1 rest f1
    · (wp_walk using Ok_ok)
      exact hq _ s1 rest f1
/-- what is due of a text alone, as a place's kind, as a result -/
structure Tri (c1 : List Nat) (b : Bool) (ds : List D) : Prop where
  a : Hd64 (mkS c1) (kdIf b (.tup ds)) .non
  p : Hd64 (mkS (plcT c1)) .non (if b then papD "ab" 1 [("x", "lend", .tup ds), ("yy", "copy", .tup [.str "text"])] .non else .non)
  r : Hd64 (mkS (resT "abcdefgh" 0 c1)) .non (if b then papD "abcdefgh" 0 [] (.tup ds) else .non)
theorem plc_len {l : List Nat} : (plcT l).length = l.length + 38 := by
  unfold plcT plcZ
  simp only [List.length_append, List.length_cons, show (cd "door ").length = 5 from rfl, show (cd "ab").length = 2 from rfl, show (cd " (").length = 2 from rfl, show (cd "x").length = 1 from rfl, show (cd "lend").length = 4 from rfl, show (cd ", yy copy text) none").length = 20 from rfl]
  omega
theorem res_len {l : List Nat} : (resT "abcdefgh" 0 l).length = l.length + 19 := by
  unfold resT
  simp only [List.length_append, List.length_cons, show (cd "door ").length = 5 from rfl, show (cd "abcdefgh").length = 8 from rfl, show (cd " (").length = 2 from rfl]
  omega
theorem door_plc {l : List Nat} : KdDue (plcT l) .non := door_no (r := cd "ab" ++ 32 :: ((48 + (1 : Int).toNat) :: (cd " (" ++ (cd "x" ++ 32 :: (cd "lend" ++ 32 :: (l ++ plcZ))))))
theorem door_res {l : List Nat} : KdDue (resT "abcdefgh" 0 l) .non := door_no (r := cd "abcdefgh" ++ 32 :: ((48 + (0 : Int).toNat) :: (cd " (" ++ (41 :: 32 :: l))))
theorem tri_var {c1 : List Nat} {ds : List D} (h : Lv d c k g) (hl : c.length ≤ 20000) (hv : Vr9 c c1) : Tri c1 false ds := by
  cases hv with
  | @less c0 e =>
    subst e
    have hl0 : c1.length ≤ 20000 := by rw [List.length_append] at hl; omega
    exact ⟨⟨by rw [cd_mkS]; exact kd_less h, by rw [cd_mkS]; exact pp_less h, .non, .non, by rw [mkS_len]; omega⟩, ⟨by rw [cd_mkS]; exact door_plc, by rw [cd_mkS]; exact plc_less h, .non, .non, by rw [mkS_len, plc_len]; omega⟩, ⟨by rw [cd_mkS]; exact door_res, by rw [cd_mkS]; exact res_less nm_h (.inl rfl) h, .non, .non, by rw [mkS_len, res_len]; omega⟩⟩
  | more =>
    have hl0 : (c ++ [41]).length ≤ 20001 := by rw [List.length_append, List.length_singleton]; omega
    exact ⟨⟨by rw [cd_mkS]; exact kd_more h (by unfold small; omega), by rw [cd_mkS]; exact pp_kind h, .non, .non, by rw [mkS_len]; omega⟩, ⟨by rw [cd_mkS]; exact door_plc, by rw [cd_mkS]; exact plc_more h (.inl rfl), .non, .non, by rw [mkS_len, plc_len]; omega⟩, ⟨by rw [cd_mkS]; exact door_res, by rw [cd_mkS]; exact res_more nm_h (.inl rfl) h (by unfold small; omega), .non, .non, by rw [mkS_len, res_len]; omega⟩⟩
  | blank =>
    have hl0 : (c ++ [32]).length ≤ 20001 := by rw [List.length_append, List.length_singleton]; omega
    exact ⟨⟨by rw [cd_mkS]; exact kd_more h (by unfold small; omega), by rw [cd_mkS]; exact pp_kind h, .non, .non, by rw [mkS_len]; omega⟩, ⟨by rw [cd_mkS]; exact door_plc, by rw [cd_mkS]; exact plc_more h (.inr rfl), .non, .non, by rw [mkS_len, plc_len]; omega⟩, ⟨by rw [cd_mkS]; exact door_res, by rw [cd_mkS]; exact res_more nm_h (.inl rfl) h (by unfold small; omega), .non, .non, by rw [mkS_len, res_len]; omega⟩⟩
theorem tri_whole {ds : List D} (h : Lv d c (.tup ds) g) (hl : c.length ≤ 20000) : Tri c (g && decide (d ≤ 5)) ds := by
  have k1 := kd_whole h
  have p1 := pp_kind (r := []) h
  rw [List.append_nil] at p1
  have k2 := plc_whole h
  have k3 := res_whole nm_h (.inl rfl) h
  have hx : (g && decide (d ≤ 5)) = true → Px 15 (.tup ds) := fun hb => by
    rw [Bool.and_eq_true, decide_eq_true_eq] at hb
    exact (kq_px (kd_kq (q := True) (h.kd hb.1))).deep (by omega)
  cases hb : (g && decide (d ≤ 5)) with
  | false =>
    rw [hb] at k1 k2 k3
    exact ⟨⟨by rw [cd_mkS]; exact k1, by rw [cd_mkS]; exact p1, .non, .non, by rw [mkS_len]; omega⟩, ⟨by rw [cd_mkS]; exact door_plc, by rw [cd_mkS]; exact k2, .non, .non, by rw [mkS_len, plc_len]; omega⟩, ⟨by rw [cd_mkS]; exact door_res, by rw [cd_mkS]; exact k3, .non, .non, by rw [mkS_len, res_len]; omega⟩⟩
  | true =>
    rw [hb] at k1 k2 k3
    have hx := hx hb
    have xp : Px 18 (papD "ab" 1 [("x", "lend", .tup ds), ("yy", "copy", .tup [.str "text"])] .non) := by
      refine .tup (by simp) fun e he => ?_
      simp only [List.mem_cons, List.not_mem_nil, or_false] at he
      rcases he with rfl | rfl | rfl | rfl
      · exact .str _
      · exact .int _
      · refine .tup (by simp) fun e he => ?_
        simp only [List.map_cons, List.map_nil, List.mem_cons, List.not_mem_nil, or_false] at he
        rcases he with rfl | rfl
        · refine .tup (by simp) fun e he => ?_
          simp only [List.mem_cons, List.not_mem_nil, or_false] at he
          rcases he with rfl | rfl | rfl
          · exact .str _
          · exact .str _
          · exact hx
        · refine .tup (by simp) fun e he => ?_
          simp only [List.mem_cons, List.not_mem_nil, or_false] at he
          rcases he with rfl | rfl | rfl
          · exact .str _
          · exact .str _
          · exact .tup (by simp) fun e he => by rw [List.mem_singleton] at he; subst he; exact .str _
      · exact .non
    have xr : Px 18 (papD "abcdefgh" 0 [] (.tup ds)) := by
      refine .tup (by simp) fun e he => ?_
      simp only [List.mem_cons, List.not_mem_nil, or_false] at he
      rcases he with rfl | rfl | rfl | rfl
      · exact .str _
      · exact .int _
      · exact .tup (by simp) fun e he => nomatch he
      · exact hx.deep (by decide)
    exact ⟨⟨by rw [cd_mkS]; exact k1, by rw [cd_mkS]; exact p1, hx.deep (by decide), .non, by rw [mkS_len]; omega⟩, ⟨by rw [cd_mkS]; exact door_plc, by rw [cd_mkS]; exact k2, .non, xp, by rw [mkS_len, plc_len]; omega⟩, ⟨by rw [cd_mkS]; exact door_res, by rw [cd_mkS]; exact k3, .non, xr, by rw [mkS_len, res_len]; omega⟩⟩
theorem asked3_ok {cell : Int} (hL : 3 ≤ L) (hq : ∀ T kd pd s', Hd64 T kd pd → Fr [] s s' → Q (.tup [.str T, kd, pd]) s') : Ok (callK G L i_l_asked_v3 [.int cell] s) Q X := by
  obtain ⟨K, rfl⟩ : ∃ k, L = k + 1 := ⟨L - 1, by omega⟩
  rw [Ok_call G_l_asked_v3]
  unfold d_l_asked_v3
  (wp_walk using Ok_ok)
  refine l_draws_ok (c := cell) (m := 16) (by omega) (by decide) fun kr zs s1 hkr hR hzl hz0 f1 => ?_
  have at_ : ∀ i : Nat, i < 16 → ∃ z : Int, 0 ≤ z ∧ atI (zs.map D.int) (i : Int) = some (.int z) := fun i hi => by
    obtain ⟨z, hz, _, e⟩ := atM (f := D.int) (xs := zs) (i := i) (by omega)
    exact ⟨z, hz0 z hz, e⟩
  obtain ⟨z0, z00, a0⟩ := at_ 0 (by decide)
  obtain ⟨z1, z10, a1⟩ := at_ 1 (by decide)
  have a0 : atI (zs.map D.int) (0 : Int) = some (.int z0) := a0
  have a1 : atI (zs.map D.int) (1 : Int) = some (.int z1) := a1
  (wp_walk using Ok_ok)
  refine Al_lst fun k2 s2 _ h2 f2 => ?_
  have hR := f2.ls (by simp) hR
  have f12 := f1.trans f2
  (wp_walk using idx_ref hR, a0, mod_int (i := z0) (j := 8) (s := s2) (by decide))
  refine pickL h2 (Int.emod_nonneg _ (by decide)) (Int.emod_lt_of_pos _ (by decide)) fun dm hdm => ?_
  obtain ⟨M, rfl, m9⟩ : ∃ M : Nat, dm = .int (M : Int) ∧ M ≤ 7 := by
    simp only [List.mem_cons, List.not_mem_nil, or_false] at hdm
    rcases hdm with rfl | rfl | rfl | rfl | rfl | rfl | rfl | rfl
    · exact ⟨0, rfl, by decide⟩
    · exact ⟨1, rfl, by decide⟩
    · exact ⟨2, rfl, by decide⟩
    · exact ⟨3, rfl, by decide⟩
    · exact ⟨4, rfl, by decide⟩
    · exact ⟨4, rfl, by decide⟩
    · exact ⟨5, rfl, by decide⟩
    · exact ⟨7, rfl, by decide⟩
  clear h2 hdm f1 f2
  (wp_walk using Ok_ok)
  refine Al_lst fun k3 s3 _ h3 f3 => ?_
  have hR := f3.ls (by simp) hR
  have f13 := f12.trans f3
  (wp_walk using idx_ref hR, a1, mod_int (i := z1) (j := 3) (s := s3) (by decide))
  refine pickL h3 (Int.emod_nonneg _ (by decide)) (Int.emod_lt_of_pos _ (by decide)) fun dl hdl => ?_
  obtain ⟨c, ds, rfl, hlv, hcl⟩ : ∃ c ds, dl = .tup [.str (mkS c), kdIf true (.tup ds)] ∧ Lv 1 c (.tup ds) true ∧ c.length ≤ 5 := by
    simp only [List.mem_cons, List.not_mem_nil, or_false] at hdl
    rcases hdl with rfl | rfl | rfl
    · exact ⟨cd "text", [.str "text"], by rw [mkS_cd]; rfl, .text, by decide⟩
    · exact ⟨cd "num " ++ [48 + (4 : Int).toNat], [.str "num", .int 4], rfl, .num (by decide) (by decide), by decide⟩
    · exact ⟨cd "num " ++ [48 + (1 : Int).toNat], [.str "num", .int 1], rfl, .num (by decide) (by decide), by decide⟩
  clear h3 hdl f3 f12
  (wp_walk using it_rng1 (i := (M : Int)) (s := s3) (by omega))
  refine loopAt _ (fun i e t => ∃ (x4 : Option D) (c : List Nat) (ds : List D) (g : Bool), e = [some (.int cell), some (.ref kr), some (.int (M : Int)), some (.tup [.str (mkS c), kdIf g (.tup ds)]), x4, none, none, none, none, none] ∧ Fr [] s t ∧ lsAt t kr = some (zs.map D.int) ∧ Lv (i + 1) c (.tup ds) g ∧ c.length ≤ 5 + 210 * i)
    ⟨none, c, ds, true, rfl, f13, hR, hlv, by omega⟩ (fun _ _ _ _ => Grd_nil) ?_ ?_
  · clear hR hlv hcl f13
    rintro i d e t hd ⟨x4, c, ds, g, rfl, ft, hR, hlv, hcl⟩
    obtain ⟨hi, rfl⟩ := rng_at hd
    have hi : i < 7 := by omega
    obtain ⟨za, _, aa⟩ := at_ (2 + i) (by omega)
    obtain ⟨zb, _, ab⟩ := at_ (9 + i % 7) (by omega)
    have e1 : (2 : Int) + (i : Int) = ((2 + i : Nat) : Int) := by omega
    have e2 : (9 : Int) + (i : Int) % 7 = ((9 + i % 7 : Nat) : Int) := by omega
    refine ⟨_, rfl, ?_⟩
    (wp_walk using idx_ref hR, e1, aa, mod_int (i := za) (j := 3) (s := t) (by decide), mod_int (i := (i : Int)) (j := 7) (s := t) (by decide), e2, ab)
    refine level_ok (by omega) hlv (by omega) (Int.emod_nonneg _ (by decide)) (by have := Int.emod_lt_of_pos za (show (0 : Int) < 3 by decide); omega) fun c' k' g' t2 hlv' hcl' f2 => ?_
    obtain ⟨ds', rfl⟩ : ∃ ds, k' = .tup ds := by cases hlv' <;> exact ⟨_, rfl⟩
    have hR := f2.ls (by simp) hR
    (wp_walk using Ok_ok)
    exact ⟨_, c', ds', g', rfl, ft.trans f2, hR, hlv', by omega⟩
  clear hR hlv hcl f13
  rintro e t ⟨x4, c, ds, g, rfl, ft, hR, hlv, hcl⟩
  rw [rng_len, Int.toNat_natCast] at hlv hcl
  have hne : c ≠ [] := by
    obtain ⟨a, b, t, e, _⟩ := hlv.hd
    rw [e]; simp
  (wp_walk using idx_ref hR, a0, fdiv_int (i := z0) (j := 8) (s := t) (by decide) (by decide), mod_int (i := z0 / 8) (j := 8) (s := t) (by decide))
  refine Ok.imp (ended64_ok (Q := fun d u => ∃ (c1 : List Nat) (wh : Bool), d = .tup [.str (mkS c1), .bl wh] ∧ Fr [] t u ∧ (wh = true → c1 = c) ∧ (wh = false → Vr9 c c1)) (X := fun _ _ => False) (by omega) hne (by omega) (fun s' f => ⟨c, true, rfl, f, fun _ => rfl, fun h => nomatch h⟩) (fun c1 s' hv f => ⟨c1, false, rfl, f, (fun h => nomatch h), fun _ => hv⟩)) ?_ (fun _ _ h => h.elim)
  rintro d u ⟨c1, wh, rfl, f4, w1, w2⟩
  have hR := f4.ls (by simp) hR
  have ft := ft.trans f4
  have hc1 : c1.length ≤ c.length + 1 := by
    cases wh with
    | true => rw [w1 rfl]; exact Nat.le_succ _
    | false =>
      cases w2 rfl with
      | less e => rw [e, List.length_append]; omega
      | more => rw [List.length_append]; exact Nat.le_refl _
      | blank => rw [List.length_append]; exact Nat.le_refl _
  have tri0 : ∃ b : Bool, Tri c1 b ds ∧ b = (wh && (g && decide (M + 1 ≤ 5))) := by
    cases wh with
    | true => rw [w1 rfl]; exact ⟨_, tri_whole hlv (by omega), rfl⟩
    | false => exact ⟨false, tri_var hlv (by omega) (w2 rfl), rfl⟩
  obtain ⟨b, tri, hb⟩ := tri0
  (wp_walk using Ok_ok)
  refine kOrT_mid64 (fun e v => e = [some (.int cell), some (.ref kr), some (.int (M : Int)), some (.tup [.str (mkS c), kdIf g (.tup ds)]), x4, some (.str (mkS c1)), some (.bl wh), some (kdIf b (.tup ds)), none, none] ∧ v = u) ?_ ?_
  · refine kOrT_split (fun h4 => ?_) (fun h4 => ?_)
    · have h4 := of_decide_eq_true h4
      have : b = false := by rw [hb, decide_eq_false (show ¬ M + 1 ≤ 5 by omega), Bool.and_false, Bool.and_false]
      subst this
      (wp_walk using Ok_ok)
      rfl
    · have h4 := of_decide_eq_false h4
      rw [decide_eq_true (show M + 1 ≤ 5 by omega), Bool.and_true] at hb
      cases wh with
      | true =>
        have : b = g := by rw [hb, Bool.true_and]
        subst this
        (wp_walk using Ok_ok)
      | false =>
        have : b = false := by rw [hb, Bool.false_and]
        subst this
        (wp_walk using Ok_ok)
        rfl
  clear w1 w2 hb hlv
  rintro e9 v ⟨rfl, rfl⟩
  (wp_walk using idx_ref hR, a0, fdiv_int (i := z0) (j := 64) (s := v) (by decide) (by decide), mod_int (i := z0 / 64) (j := 3) (s := v) (by decide))
  have e1 : cd "door ab 1 (x lend " ++ c1 ++ cd ", yy copy text) none" = plcT c1 := by rw [List.append_assoc]; rfl
  have e2 : cd "door abcdefgh 0 () " ++ c1 = resT "abcdefgh" 0 c1 := rfl
  have g1 := hq _ _ _ v tri.a ft
  have g2 := hq _ _ _ v tri.p ft
  have g3 := hq _ _ _ v tri.r ft
  have l1 : (cd "door ab 1 (x lend ").length = 18 := rfl
  have l2 : (cd ", yy copy text) none").length = 20 := rfl
  have l3 : (cd "door abcdefgh 0 () ").length = 19 := rfl
  have q1 := add_mk (x := "door ab 1 (x lend ") (y := mkS c1) (l := cd "door ab 1 (x lend ") (m := c1) (s := v) rfl cd_mkS (by omega)
  have q2 := add_mk (x := mkS (cd "door ab 1 (x lend " ++ c1)) (y := ", yy copy text) none") (l := cd "door ab 1 (x lend " ++ c1) (m := cd ", yy copy text) none") (s := v) cd_mkS rfl (by rw [List.length_append]; omega)
  have q3 := add_mk (x := "door abcdefgh 0 () ") (y := mkS c1) (l := cd "door abcdefgh 0 () ") (m := c1) (s := v) rfl cd_mkS (by omega)
  rw [e1] at q2
  rw [e2] at q3
  refine kIf_split (fun _ => ?_) (fun _ => ?_)
  · (wp_walk using Ok_ok)
    exact g1
  · (wp_walk using Ok_ok)
    refine kIf_split (fun _ => ?_) (fun _ => ?_)
    · cases b with
      | false =>
        have g2 : Q (.tup [.str (mkS (plcT c1)), .non, .non]) v := g2
        have kn : kdIf false (.tup ds) = .non := rfl
        (wp_walk using kn, q1, q2)
        exact g2
      | true =>
        have kn : kdIf true (.tup ds) = .tup ds := rfl
        (wp_walk using kn, q1, q2)
        exact g2
    · cases b with
      | false =>
        have kn : kdIf false (.tup ds) = .non := rfl
        (wp_walk using kn, q3)
        exact g3
      | true =>
        have kn : kdIf true (.tup ds) = .tup ds := rfl
        (wp_walk using kn, q3)
        exact g3
theorem law_v20_ok {ns : List Int} (hL : 60 ≤ L) (hl : ns.length ≤ 63) (h : ∀ s', Q (.bl true) s') : Ok (callK G L i_law_v20 [.rol (ns.map D.int)] s) Q X := by
  obtain ⟨K, rfl⟩ : ∃ k, L = k + 1 := ⟨L - 1, by omega⟩
  rw [Ok_call G_law_v20]
  unfold d_law_v20
  (wp_walk using Ok_ok)
  refine Al_lst fun k0 s1 _ h0 f1 => ?_
  (wp_walk using ok_add_rol h0 (ys := ns.map D.int) (show [D.int ((ns.map D.int).length : Int)].length + (ns.map D.int).length ≤ 1000000 by simp; omega))
  refine Al_lst fun k1 s2 _ h1 f2 => ?_
  have hd9 : ∀ (i : Nat) (d : D), ([D.int ((ns.map D.int).length : Int)] ++ ns.map D.int)[i]? = some d → ∃ z : Int, d = .int z := fun i d hd => by
    have hm := List.mem_of_getElem? hd
    rcases List.mem_append.mp hm with hm | hm
    · rw [List.mem_singleton] at hm; exact ⟨_, hm⟩
    · obtain ⟨z, _, e⟩ := List.mem_map.mp hm; exact ⟨z, e.symm⟩
  (wp_walk using it_ref h1)
  refine loopAt _ (fun i e t => ∃ (x1 x3 x4 x5 : Option D), e = [some (.rol (ns.map D.int)), x1, none, x3, x4, x5] ∧ Fr [] s2 t) ⟨_, _, _, _, rfl, Fr.refl⟩ (fun i e t ⟨_, _, _, _, _, ft⟩ p hp => by rw [List.mem_singleton] at hp; subst hp; exact ft.ls (by simp) h1) ?_ ?_
  · rintro i d e t hd ⟨x1, x3, x4, x5, rfl, ft⟩
    obtain ⟨z, rfl⟩ := hd9 i d hd
    refine ⟨_, rfl, ?_⟩
    (wp_walk using Ok_ok)
    refine asked3_ok (by omega) fun T kd pd s3 hh f3 => ?_
    (wp_walk using Ok_ok)
    refine held_ok (by omega) hh fun s4 f4 => ?_
    (wp_walk using Ok_ok)
    exact ⟨_, _, _, _, rfl, (ft.trans f3).trans f4⟩
  · rintro e t ⟨x1, x3, x4, x5, rfl, ft⟩
    (wp_walk using Ok_ok)
    refine Al_lst fun k2 s3 _ h2 f3 => ?_
    (wp_walk using ok_rol_add h2 (xs := ns.map D.int) (show (ns.map D.int).length + [D.int 0].length ≤ 1000000 by simp; omega))
    refine Al_lst fun k3 s4 _ h3 f4 => ?_
    obtain ⟨z, hz⟩ : ∃ z : Int, atI (ns.map D.int ++ [.int 0]) 0 = some (.int z) := by
      cases ns with
      | nil => exact ⟨0, rfl⟩
      | cons a r =>
        have e := atI_of (l := (a :: r).map D.int ++ [D.int 0]) (a := D.int a) 0 (by simp)
        exact ⟨a, e⟩
    (wp_walk using idx_ref h3, hz)
    refine l_draws_ok (c := z) (m := 18) (by omega) (by decide) fun kr zs s5 hkr hR hzl hz0 f5 => ?_
    have at_ : ∀ i : Nat, i < 18 → ∃ z : Int, 0 ≤ z ∧ atI (zs.map D.int) (i : Int) = some (.int z) := fun i hi => by
      obtain ⟨z, hz, _, e⟩ := atM (f := D.int) (xs := zs) (i := i) (by omega)
      exact ⟨z, hz0 z hz, e⟩
    obtain ⟨za, _, a16⟩ := at_ 16 (by decide)
    obtain ⟨zb, _, a17⟩ := at_ 17 (by decide)
    have a16 : atI (zs.map D.int) (16 : Int) = some (.int za) := a16
    have a17 : atI (zs.map D.int) (17 : Int) = some (.int zb) := a17
    (wp_walk using idx_ref hR, a16, mod_int (i := za) (j := 4) (s := s5) (by decide))
    refine kIf_split (fun _ => ?_) (fun _ => ?_)
    · (wp_walk using Ok_ok)
      exact h _
    · obtain ⟨r, hr⟩ : ∃ r : Int, za / 4 % 4 = r := ⟨_, rfl⟩
      have r1 := Int.emod_nonneg (za / 4) (show (4 : Int) ≠ 0 by decide)
      have r2 := Int.emod_lt_of_pos (za / 4) (show (0 : Int) < 4 by decide)
      rw [hr] at r1 r2
      (wp_walk using idx_ref hR, a16, fdiv_int (i := za) (j := 4) (s := s5) (by decide) (by decide), mod_int (i := za / 4) (j := 4) (s := s5) (by decide), hr)
      refine kIf_split (fun h3r => ?_) (fun h3r => ?_)
      · have p1 := Int.emod_nonneg zb (show (199 : Int) ≠ 0 by decide)
        have p2 := Int.emod_lt_of_pos zb (show (0 : Int) < 199 by decide)
        obtain ⟨m, hm⟩ : ∃ m : Nat, 1 + zb % 199 = (m : Int) := ⟨_, (Int.toNat_of_nonneg (by omega)).symm⟩
        have e1 : mul2 (.str "b copy text, ") (.int (m : Int)) s5 = some (.str (mkS (rep9 m (cd "b copy text, "))), s5) := mul_str (x := "b copy text, ") (k := (m : Int)) (s := s5) ⟨by omega, by decide⟩
        have l1 : (rep9 m (cd "b copy text, ")).length = m * 13 := rep9_len
        (wp_walk using idx_ref hR, a17, mod_int (i := zb) (j := 199) (s := s5) (by decide), hm, e1, add_mk (x := "door a 0 (") (y := mkS (rep9 m (cd "b copy text, "))) (l := cd "door a 0 (") (m := rep9 m (cd "b copy text, ")) (s := s5) rfl cd_mkS (by rw [show (cd "door a 0 (").length = 10 from rfl]; omega))
        (wp_walk using add_mk (x := mkS (cd "door a 0 (" ++ rep9 m (cd "b copy text, "))) (y := "b copy text) none") (l := cd "door a 0 (" ++ rep9 m (cd "b copy text, ")) (m := cd "b copy text) none") (s := s5) cd_mkS rfl (by rw [List.length_append, show (cd "door a 0 (").length = 10 from rfl, show (cd "b copy text) none").length = 17 from rfl]; omega))
        have hh : Hd64 (mkS (cd "door a 0 (" ++ rep9 m (cd "b copy text, ") ++ cd "b copy text) none")) .non .non := by
          rw [List.append_assoc]
          exact ⟨by rw [cd_mkS]; exact door_no (r := cd "a 0 (" ++ (rep9 m (cd "b copy text, ") ++ cd "b copy text) none")), by rw [cd_mkS]; exact pp_many (by omega), .non, .non, by rw [mkS_len, List.length_append, List.length_append, show (cd "door a 0 (").length = 10 from rfl, show (cd "b copy text) none").length = 17 from rfl]; omega⟩
        exact held_ok (by omega) hh fun s' _ => h s'
      · have h3r : ¬ r = 3 := by simpa using h3r
        (wp_walk using Ok_ok)
        refine Al_lst fun k6 s6 _ h6 f6 => ?_
        have hR := f6.ls (by simp) hR
        (wp_walk using idx_ref hR, a16, fdiv_int (i := za) (j := 4) (s := s6) (by decide) (by decide), mod_int (i := za / 4) (j := 4) (s := s6) (by decide), hr)
        obtain ⟨hd0, ai, hdp⟩ : ∃ hd0 : Str, atI [D.str "", .str "door a 0 () ", .str "door a 0 (b give "] r = some (.str hd0) ∧ (∀ l, Dp64 l → Hd64 (mkS (cd hd0 ++ l)) .non .non) ∧ (cd hd0).length ≤ 20 := by
          rcases (show r = 0 ∨ r = 1 ∨ r = 2 by omega) with rfl | rfl | rfl
          · exact ⟨"", rfl, fun l hl => dp_kind hl, by decide⟩
          · exact ⟨"door a 0 () ", rfl, fun l hl => dp_res hl, by decide⟩
          · exact ⟨"door a 0 (b give ", rfl, fun l hl => dp_plc hl, by decide⟩
        obtain ⟨hdp, hdl⟩ := hdp
        (wp_walk using idx_ref h6, ai, idx_ref hR, a17)
        refine deep_ok (by omega) fun l s7 hdl9 f7 => ?_
        have hl9 := hdl9.1
        (wp_walk using add_mk (x := hd0) (y := mkS l) (l := cd hd0) (m := l) (s := s7) rfl cd_mkS (by omega))
        exact held_ok (by omega) (hdp l hdl9) fun s' _ => h s'
end
theorem law_math : LawM G (60 + 1) i_law_v20 := by
  intro ns hl
  obtain ⟨a, s, e, h⟩ := (law_v20_ok (L := 60 + 1) (ns := ns) (Q := fun d _ => d = .bl true) (X := fun _ _ => False) (by decide) hl fun _ => rfl).elim
  exact ⟨s, by rw [e, h]⟩
end T
namespace T
open PySem PySem.Spec L2
open PyProof.Rows hiding St
abbrev kkL : Nat := 61
end T
open PySem PySem.W PySem.Calls PyProof.Rows
theorem PySem.Challenge.cw_tonguegate_k64_deep_and_wide_texts_holds : PySem.Challenge.rw_tonguegate_k64_deep_and_wide_texts.Holds := by
  w_on
  refine T.look9 fun said => ?_
  refine HandSHeadRun.head_any (r := T.RowO) (q := view T.RowO.prog [37]) (H := T.Hk) (ob := T.Ob) (M := 30000) (loose := T.loose) (d := HandSHeadRun.topDef T.RowO.prog 37) (kwd := []) T.Ob_eq T.fin_e T.fin_f T.top_run
    T.fin_d T.fin_p T.fin_k (by rfl) (by first | assumption | decide +kernel) T.fin_ok T.fin_b ?hw ?hc
  case hw => w_witness2
  case hc => exact T.law_at (l := PySem.Challenge.rw_tonguegate_k64_deep_and_wide_texts) (kk := T.kkL) (jl := 219) (dl := T.d_law_v20) rfl (by kernel_rfl) (by kernel_rfl) ⟨rfl, by decide, by decide⟩ rfl rfl rfl rfl T.all_chk T.all_plain T.exc_ok T.num_ok T.law_math
